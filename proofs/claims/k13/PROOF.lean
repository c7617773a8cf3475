import PyProof.Rows.All
import Wide.All
import OpenK.AllK
import Wide.FinOn
import HandS.ForMost
import KE.SortData
import HandS.Exc
import HandS.Style
import HandS.TupMul
import HandS.TupAny
import HandS.Deep
import HandS.Strs
import KE.DataMinMax
import HandS.Conv
import HandS.RaiseMore
import PyProof.ReprRoads
import HandS.SetFor
import HandS.Text
import HandS.Star
import HandS.ClsMeth
import HandS.MakeKw
import HandS.MakeKwOnly
import HandS.ExcOwn
import HandS.Property
import HandS.Iter
import HandS.Zip
import HandS.Comp
import KE.GoesEnum
import HandS.Small
import HandS.IsInst
import KE.KExcSuper
import KE.KSuper
import HandS.ExcInit
import KE.KExcIs
import HandS.Ends
import HandS.Defaults
import HandS.HeadEnd
import HandS.Head0
import HandS.Head1
import HandS.Head2
import HandS.HeadHook1
import HandS.HeadHook2
import KE.KExcInit
import PySem.Challenge.RW_treetrain_k13_whole_trunks_and_pivots
set_option Elab.async false
set_option linter.all false
set_option Elab.async false
set_option linter.all false
namespace Mi
open PySem L2
inductive D where
  | none | bool (b : Bool) | int (i : Int) | str (s : Str)
  | tup (xs : List D) | list (xs : List D) | dict (ks : List Key) (vs : List D)
  | obj (c : Nat) (fs : List D) | exc (c : Nat) (fs : List D) | cls (c : Nat) | ref (n : Nat)
  deriving Inhabited
inductive Cell where
  | list (xs : List D) | dK (kvs : List (Key × D)) | dT (kvs : List (List Key × D)) | inst (c : Nat) (fs : List D) | dead
  deriving Inhabited
abbrev Store := List Cell
inductive Res (α : Type) where
  | ok (a : α) (S : Store) | exc (e : D) (S : Store) | bad
abbrev M (α : Type) := Store → Res α
@[inline] def M.pure {α : Type} (a : α) : M α := fun S => .ok a S
@[inline] def M.bind {α β : Type} (m : M α) (f : α → M β) : M β := fun S => match m S with
  | .ok a S' => f a S'
  | .exc e S' => .exc e S'
  | .bad => .bad
instance : Monad M where
  pure := M.pure
  bind := M.bind
def bad {α : Type} : M α := fun _ => .bad
def opt {α : Type} : Option α → M α
  | some a => fun S => .ok a S
  | none => fun _ => .bad
/-- an operator that leaves the store as it is -/
def pur (f : Store → Option D) : M D := fun S => match f S with
  | some d => .ok d S
  | none => .bad
/-- one that changes the store -/
def eff (f : Store → Option (D × Store)) : M D := fun S => match f S with
  | some (d, S') => .ok d S'
  | none => .bad
def grd (b : Bool) : M Unit := fun S => if b then .ok () S else .bad
def grdS (f : Store → Bool) : M Unit := fun S => if f S then .ok () S else .bad
/-- keys and values in turn -/
def keyOf : D → Option Key
  | .int i => some (.inl i)
  | .str s => some (.inr s)
  | _ => none
def pairsGo : List D → Option (List (Key × D))
  | [] => some []
  | [_] => none
  | k :: v :: r => match keyOf k, pairsGo r with
    | some k', some kvs => some ((k', v) :: kvs)
    | _, _ => none
def pairsOf (vs : List D) : Option (List (Key × D)) := match pairsGo vs with
  | some kvs => if (kvs.map (·.1)).Nodup ∧ kvs.length ≤ 15 then some kvs else none
  | none => none
/-- the new dict in a cell gets its pairs -/
def fill (n : Nat) (kvs : List (Key × D)) : M Unit := fun S => match S[n]? with
  | some (.dK []) => .ok () (S.set n (.dK kvs))
  | _ => .bad
mutual
def pyd : D → Option PyData
  | .none => some .none
  | .bool b => some (.bool b)
  | .int i => some (.int i)
  | .str s => some (.str s)
  | .tup xs => (pyds xs).map .tuple
  | .list xs => (pyds xs).map .list
  | .dict ks vs => (pyds vs).map fun ds => .dict ((ks.map fun | .inl i => PyData.int i | .inr s => PyData.str s).zip ds)
  | _ => none
def pyds : List D → Option (List PyData)
  | [] => some []
  | x :: xs => match pyd x, pyds xs with
    | some d, some ds => some (d :: ds)
    | _, _ => none
end
/-- a value as data; a list of the store by its items -/
def deref (S : Store) : D → D
  | .ref n => match S[n]? with
    | some (.list xs) => .list xs
    | _ => .ref n
  | d => d
def pyS (S : Store) (d : D) : Option PyData := pyd (deref S d)
/-- the items of a list (of the store, or a value) or a tuple -/
def seqOf (S : Store) (d : D) : Option (List D) := match deref S d with
  | .list xs => some xs
  | .tup xs => some xs
  | _ => none
def listOf (S : Store) (d : D) : Option (List D) := match deref S d with
  | .list xs => some xs
  | _ => none
def intsOf : List D → Option (List Int)
  | [] => some []
  | .int i :: r => (intsOf r).map (i :: ·)
  | _ :: _ => none
def boolsOf : List D → Option (List Bool)
  | [] => some []
  | .bool b :: r => (boolsOf r).map (b :: ·)
  | _ :: _ => none
def strsOf : List D → Option (List Str)
  | [] => some []
  | .str b :: r => (strsOf r).map (b :: ·)
  | _ :: _ => none
def keysOf : List D → Option (List Key)
  | [] => some []
  | x :: r => match keyOf x, keysOf r with
    | some k, some ks => some (k :: ks)
    | _, _ => none
def kD : Key → D
  | .inl i => .int i
  | .inr s => .str s
inductive BOp where
  | add | sub | mul | fdiv | mod | pow
  deriving DecidableEq
inductive COp where
  | eq | ne | lt | le | gt | ge | in_ | nin
  deriving DecidableEq
inductive Ty where
  | b (n : String) | cls (c : Nat) | exc (n : String)
inductive BFn where
  | len | list | tuple | sorted | sortedR | max1 | max2 | min1 | min2 | maxD | int | str | any | all | repr | sum | lenSet | listRange | tupRange | abs
  deriving DecidableEq
inductive BM where
  | append | pop | popAt | extend | index | indexT | count | get1 | get2 | split | join
  deriving DecidableEq
inductive ItK where
  | seq | rng1 | rng2 | enumL | enumT | zipL | zipT | vals
  deriving DecidableEq
inductive Tg where
  | n (i : Nat) | t (ts : List Tg)
inductive E where
  | v (i : Nat) | c (d : D) | g (n : Nat)
  | tup (es : List E) | list (es : List E) | mlist (es : List E) | st (e : E)
  | mdict (kvs : List E) | mdictT | edict
  | bin (o : BOp) (a b : E) | mulm (a b : E) | addm (a b : E) | rngm (a : E) | neg (a : E)
  | cmp (o : COp) (a b : E) | cmp2 (o1 o2 : COp) (a b c : E) | isN (pos : Bool) (a : E) | isB (pos : Bool) (b : Bool) (a : E)
  | eqE (a : E) | and_ (es : List E) | or_ (es : List E) | not_ (a : E) | ite (c a b : E)
  | ix (a i : E) | sl (a lo hi : E) | slm (a lo hi : E) | rev (a : E) | vals (a : E)
  | attr (a : E) (f : Str) | cattr (c : Nat) (f : Str)
  | call (f : Nat) (es : List E) (ks : List Str) (kes : List E)
  | bc (b : BFn) (es : List E) | isi (a : E) (ts : List Ty)
  | meth (a : E) (m : Str) (es : List E) (ks : List Str) (kes : List E)
  | bm (m : BM) (a : E) (es : List E)
  | cm (c : Nat) (m : Str) (es : List E) (ks : List Str) (kes : List E)
  | cs (c : Nat) (m : Str) (es : List E) (ks : List Str) (kes : List E)
  | cmv (a : E) (m : Str) (es : List E) (ks : List Str) (kes : List E)
  | mk (fz : Bool) (c : Nat) (es : List E) (ks : List Str) (kes : List E)
  | mkv (fz : Bool) (a : E) (es : List E)
  | mkx (c : Nat) (es : List E) (ks : List Str) (kes : List E)
  | lc (mu : Bool) (own : List Nat) (k : ItK) (ia : List E) (tg : Tg) (cond : List E) (elt : E)
  | lc2 (own : List Nat) (k : ItK) (ia : List E) (tg : Tg) (cond : List E) (k2 : ItK) (ia2 : List E) (own2 : List Nat) (tg2 : Tg) (cond2 : List E) (elt : E)
  | fz (a : E)
/-- a part of a slice: left out, or an integer -/
def partE : E → D → Option (Option Int)
  | .c .none, _ => some none
  | _, .int i => some (some i)
  | _, _ => none
inductive St where
  | ex (e : E) | ret (e : E) | set (tg : Tg) (e : E) | seti (a i e : E) | seta (a : E) (f : Str) (e : E)
  | aug (i : Nat) (o : BOp) (e : E) | auga (a : E) (f : Str) (o : BOp) (e : E)
  | ite (c : E) (a b : List St) | while_ (n : Nat) (c : E) (b : List St)
  | for_ (k : ItK) (ia : List E) (tg : Tg) (b : List St)
  | raise (e : E) | try_ (b : List St) (cs : List Nat) (as : Option Nat) (h : List St)
  | pass | brk | cont
  /-- never come to -/
  | dead
  /-- a, b = x, y with plain names -/
  | par (is : List Nat) (es : List E)
structure Fn where
  ps : List Str
  dfl : List D
  star : Bool
  n : Nat
  body : List St
inductive AK where
  | fld (k : Nat) | prop (f : Nat) | con (d : D)
inductive MK where
  | inst (f : Nat) | cls (f : Nat) | stat (f : Nat)
structure Prog where
  fn : Nat → Option Fn
  con : Nat → Option D
  attr : Nat → Str → Option AK
  meth : Nat → Str → Option MK
  init : Nat → Option Nat
  /-- an exception class: its fields with the defaults of the last ones -/
  exc : Nat → Option (List Str × List D)
  /-- the index of a field of an exception -/
  sub : Nat → Nat → Bool
  subT : Nat → String → Bool
  /-- an exception class -/
  xk : Nat → Bool
  /-- a class that isinstance may ask for -/
  isc : Nat → Bool
abbrev Env := List (Option D)
def line : Nat := sizeLine
def bigMul (i j : Int) : Bool := (decide (-(2 ^ 64) < i) && decide (i < 2 ^ 64)) || (decide (-(2 ^ 64) < j) && decide (j < 2 ^ 64))
def binop (o : BOp) (S : Store) (a b : D) : Option D := match o, a, b with
  | .add, .int i, .int j => some (.int (i + j))
  | .sub, .int i, .int j => some (.int (i - j))
  | .mul, .int i, .int j => if bigMul i j then some (.int (i * j)) else none
  | .fdiv, .int i, .int j => if 0 < j ∧ j < 1073741824 then some (.int (i / j)) else none
  | .mod, .int i, .int j => if 0 < j then some (.int (i % j)) else none
  | .pow, .int i, .int j => if 0 ≤ j ∧ j ≤ 1000000 ∧ i.natAbs < 2 ^ 64 then some (.int (i ^ j.toNat)) else none
  | .add, .str x, .str y => if x.length + y.length ≤ line then some (.str (x ++ y)) else none
  | .add, .tup xs, .tup ys => if xs.length + ys.length ≤ line then some (.tup (xs ++ ys)) else none
  | .add, x, y => (listOf S x).bind fun xs => (listOf S y).bind fun ys => if xs.length + ys.length ≤ line then some (.list (xs ++ ys)) else none
  | .mul, .tup xs, .int k => if 2 ≤ k ∧ k ≤ 1000 ∧ xs.length ≤ 1000 then some (.tup (List.replicate k.toNat xs).flatten) else none
  | .mul, x, .int k => (listOf S x).bind fun xs => if 0 ≤ k ∧ k < 2 ^ 62 ∧ xs.length * k.toNat ≤ line then some (.list (List.replicate k.toNat xs).flatten) else none
  | _, _, _ => none
/-- a list times an integer -/
def mulL (S : Store) (a b : D) : Option (List D) := match b with
  | .int k => (listOf S a).bind fun xs => if 0 ≤ k ∧ k < 2 ^ 62 ∧ xs.length * k.toNat ≤ line then some (List.replicate k.toNat xs).flatten else none
  | _ => none
/-- a list and a list -/
def addL (S : Store) (a b : D) : Option (List D) := (listOf S a).bind fun xs => (listOf S b).bind fun ys => if xs.length + ys.length ≤ line then some (xs ++ ys) else none
def ordInt (o : COp) (i j : Int) : Option Bool := match o with
  | .lt => some (decide (i < j))
  | .le => some (decide (i ≤ j))
  | .gt => some (decide (j < i))
  | .ge => some (decide (j ≤ i))
  | _ => none
def dGet (S : Store) (d : Nat) (k : D) : Option (Option D) := match S[d]? with
  | some (.dK kvs) => (keyOf k).map fun k => (kvs.find? fun q => decide (q.1 = k)).map (·.2)
  | some (.dT kvs) => match k with
    | .tup ks => (keysOf ks).map fun k => (kvs.find? fun q => decide (q.1 = k)).map (·.2)
    | _ => none
  | _ => none
def putL {κ : Type} [DecidableEq κ] (kvs : List (κ × D)) (k : κ) (v : D) : List (κ × D) :=
  if kvs.any (fun q => decide (q.1 = k)) then kvs.map fun q => if q.1 = k then (q.1, v) else q else kvs ++ [(k, v)]
def eqOp (S : Store) (a b : D) : Option Bool := (pyS S a).bind fun x => (pyS S b).bind fun y => if SeqAt.shaped x = true ∧ SeqAt.shaped y = true then some (PyData.eqv x y) else none
def inSeq (S : Store) (a b : D) : Option Bool := (seqOf S b).bind fun xs => (pyds xs).bind fun ys => (pyS S a).bind fun x =>
  if SeqAt.shaped x = true ∧ SeqAt.shaped (.list ys) = true then some (ys.any fun y => PyData.eqv y x) else none
def isDict (S : Store) : D → Bool
  | .ref d => match S[d]? with
    | some (.dK _) => true
    | some (.dT _) => true
    | _ => false
  | _ => false
def inOp (S : Store) (a b : D) : Option Bool := match isDict S b, b with
  | true, .ref d => (dGet S d a).map Option.isSome
  | _, _ => inSeq S a b
def cmpop (o : COp) (S : Store) (a b : D) : Option D := match o with
  | .eq => (eqOp S a b).map .bool
  | .ne => (eqOp S a b).map fun r => .bool (!r)
  | .in_ => (inOp S a b).map .bool
  | .nin => (inOp S a b).map fun r => .bool (!r)
  | o => match a, b with
    | .int i, .int j => (ordInt o i j).map .bool
    | _, _ => none
/-- is it the empty tuple? -/
def emptyT (S : Store) (a b : D) : Option D := match a, b with
  | .tup xs, .tup [] => some (.bool xs.isEmpty)
  | _, _ => none
def truth (d : D) : M Bool := fun S => match d with
  | .bool b => .ok b S
  | _ => .bad
def atD (xs : List D) (i : Int) : Option D := atI xs i
def cutD (xs : List D) (lo hi : Option Int) : List D := (xs.drop (HT.sIx xs.length 0 lo)).take (HT.sIx xs.length xs.length hi - HT.sIx xs.length 0 lo)
def ixop (S : Store) (a i : D) : Option D := match isDict S a, a with
  | true, .ref d => (dGet S d i).bind fun r => r
  | _, .str z => match i with
    | .int i => if z.length ≤ line then (atI z.cps.toList i).map fun c => .str ⟨#[c]⟩ else none
    | _ => none
  | _, _ => (seqOf S a).bind fun xs => match i with
    | .int i => atI xs i
    | _ => none
def slop (S : Store) (a : D) (l h : Option Int) : Option D := match deref S a with
  | .tup xs => some (.tup (cutD xs l h))
  | .list xs => some (.list (cutD xs l h))
  | _ => none
def revop (S : Store) (a : D) : Option D := match deref S a with
  | .tup xs => some (.tup xs.reverse)
  | .list xs => some (.list xs.reverse)
  | _ => none
/-- a[i] = v -/
def setop (a i v : D) (S : Store) : Option (D × Store) := match a with
  | .ref n => match S[n]? with
    | some (.list xs) => match i with
      | .int k => match ixN xs.length k with
        | some j => some (.none, (S.set n (.list (xs.set j v))))
        | none => none
      | _ => none
    | some (.dK kvs) => match keyOf i with
      | some k => if kvs.length < line then some (.none, (S.set n (.dK (putL kvs k v)))) else none
      | none => none
    | some (.dT kvs) => match i with
      | .tup ks => match keysOf ks with
        | some k => if kvs.length < line then some (.none, (S.set n (.dT (putL kvs k v)))) else none
        | none => none
      | _ => none
    | _ => none
  | _ => none
def alloc (c : Cell) : M Nat := fun S => .ok S.length (S ++ [c])
def freeze (d : D) (S : Store) : Option (D × Store) := match d with
  | .ref n => match S[n]? with
    | some (.list xs) => some (.list xs, S.set n .dead)
    | some (.inst c fs) => some (.obj c fs, S.set n .dead)
    | some (.dK kvs) => some (.dict (kvs.map (·.1)) (kvs.map (·.2)), S.set n .dead)
    | _ => none
  | d => some (d, S)
/-- a dict whose values are walked is given up -/
def killD (d : D) (S : Store) : Option (D × Store) := match d with
  | .ref n => match S[n]? with
    | some (.dK (kv :: kvs)) => some (.dict ((kv :: kvs).map (·.1)) ((kv :: kvs).map (·.2)), S.set n .dead)
    | _ => none
  | _ => none
def slL (S : Store) (a : D) (l h : Option Int) : Option (List D) := (listOf S a).map fun xs => cutD xs l h
def slen (z : Str) : Nat := z.length
def encD (d : D) : PyData := (pyd d).getD .none
/-- what sorted asks -/
def SortOk (xs : List D) : Prop := (∀ x ∈ xs, ∃ p, pyd x = some p ∧ p.canLay0 = true) ∧ PySem.W.AllAlike (xs.map encD) ∧ PySem.W.Sortable (xs.map encD) ∧ (∀ x ∈ xs, (encD x).depth ≤ 8) ∧ xs.length ≤ line
def leD : D → D → Bool := PySem.W.dataLe false encD
def geD : D → D → Bool := PySem.W.dataLe true encD
open Classical in
noncomputable def sortedD (rev : Bool) (xs : List D) : Option (List D) := if SortOk xs then some (xs.mergeSort (PySem.W.dataLe rev encD)) else none
def maxI : List Int → Option Int
  | [] => none
  | x :: r => some (r.foldl (fun m y => if m < y then y else m) x)
def minI : List Int → Option Int
  | [] => none
  | x :: r => some (r.foldl (fun m y => if y < m then y else m) x)
def rangeD (a b : Int) : List D := (List.range (b - a).toNat).map fun i => D.int (a + (i : Nat))
def rangeOk (a b : Int) : Bool := decide (-(2 ^ 62) ≤ a) && (decide (a < 2 ^ 62) && (decide (-(2 ^ 62) ≤ b) && (decide (b < 2 ^ 62) && decide ((b - a).toNat ≤ 2 ^ 24))))
mutual
/-- data whose dicts are empty -/
def layD : PyData → Bool
  | .none | .bool _ | .int _ => true
  | .str x => PyData.canLay0 (.str x)
  | .list xs | .tuple xs => layDs xs
  | .dict [] => true
  | .dict (_ :: _) => false
def layDs : List PyData → Bool
  | [] => true
  | x :: xs => layD x && layDs xs
end
-- what repr writes
open Classical in
noncomputable def reprD (S : Store) (d : D) : Option Str := match pyS S d with
  | some p => if layD p = true ∧ p.showable = true ∧ p.depth ≤ 40 ∧ p.shown.length ≤ line then some p.shown else none
  | none => none
/-- how far list(range(..)) counts -/
def rngN : D → Option Int
  | .int n => if rangeOk 0 n then some n else none
  | _ => none
def anyI : List D → Option Bool := fun xs => (boolsOf xs).map fun bs => bs.any id
def allI : List D → Option Bool := fun xs => (boolsOf xs).map fun bs => bs.all id
noncomputable def bfn (b : BFn) (S : Store) (vs : List D) : Option D := match b, vs with
  | .len, [x] => match x with
    | .str z => if z.length ≤ line then some (.int z.length) else none
    | x => match seqOf S x with
      | some xs => some (.int xs.length)
      | none => none
  | .list, [x] => ((seqOf S x).map .list)
  | .tuple, [x] => ((seqOf S x).map .tup)
  | .sorted, [x] => (((seqOf S x).bind (sortedD false)).map .list)
  | .sortedR, [x] => (((listOf S x).bind (sortedD true)).map .list)
  | .max1, [.tup [.int a, .int b]] => some (.int (if b > a then b else a))
  | .min1, [.tup [.int a, .int b]] => some (.int (if b < a then b else a))
  | .max1, [x] => ((((listOf S x).bind intsOf).bind maxI).map .int)
  | .min1, [x] => ((((listOf S x).bind intsOf).bind minI).map .int)
  | .max2, [.int a, .int b] => some (.int (if b > a then b else a))
  | .min2, [.int a, .int b] => some (.int (if b < a then b else a))
  | .maxD, [x, .int k] => match (listOf S x).bind intsOf with
    | some [] => some (.int k)
    | some l => ((maxI l).map .int)
    | none => none
  | .int, [.int i] => some (.int i)
  | .int, [.bool b] => some (.int (if b then 1 else 0))
  | .abs, [.int i] => some (.int (if i < 0 then -i else i))
  | .str, [.int i] => if i.natAbs.log2 < 1920 then some (.str (toString i)) else none
  | .any, [x] => (((listOf S x).bind anyI).map .bool)
  | .all, [x] => (((listOf S x).bind allI).map .bool)
  | .sum, [x] => (((listOf S x).bind intsOf).map fun l => .int l.sum)
  | .repr, [x] => (reprD S x).map .str
  | .listRange, [.int n] => if rangeOk 0 n then some (.list (rangeD 0 n)) else none
  | .listRange, [.int a, .int b] => if rangeOk a b then some (.list (rangeD a b)) else none
  | .tupRange, [.int n] => if rangeOk 0 n then some (.tup (rangeD 0 n)) else none
  | .tupRange, [.int a, .int b] => if rangeOk a b then some (.tup (rangeD a b)) else none
  | .lenSet, [.tup xs] => match intsOf xs with
    | some l => if l.Nodup ∧ l.length ≤ 4000 then some (.int l.length) else none
    | none => none
  | _, _ => none
/-- a method's receiver is of the method's kind -/
def bmTy (m : BM) (S : Store) (d : D) : Bool := match m with
  | .split => match d with
    | .str _ => true
    | _ => false
  | .join => match d with
    | .str _ => true
    | _ => false
  | .get1 => isDict S d
  | .get2 => isDict S d
  | .indexT => match d with
    | .tup _ => true
    | _ => false
  | _ => (listOf S d).isSome
/-- the methods of built-in kinds -/
noncomputable def bmeth (m : BM) (a : D) (S : Store) (vs : List D) : Option (D × Store) := match m, a, vs with
  | .append, .ref n, [x] => match S[n]? with
    | some (.list xs) => if xs.length < line then some (.none, (S.set n (.list (xs ++ [x])))) else none
    | _ => none
  | .pop, .ref n, [] => match S[n]? with
    | some (.list xs) => match xs[xs.length - 1]? with
      | some y => some (y, (S.set n (.list xs.dropLast)))
      | none => none
    | _ => none
  | .popAt, .ref n, [.int i] => match S[n]? with
    | some (.list xs) => if 0 ≤ i ∧ i < 2 ^ 62 then (match xs[i.toNat]? with
      | some y => some (y, (S.set n (.list (xs.eraseIdx i.toNat))))
      | none => none) else none
    | _ => none
  | .extend, .ref n, [x] => match S[n]?, listOf S x with
    | some (.list xs), some ys => if xs.length + ys.length ≤ line then some (.none, (S.set n (.list (xs ++ ys)))) else none
    | _, _ => none
  | .index, a, [x] => ((listOf S a).bind pyds).bind fun ds => (pyd x).bind fun d => if SeqAt.shaped d = true ∧ SeqAt.shaped (.list ds) = true then ((ds.findIdx? fun y => PyData.eqv y d).map fun (i : Nat) => (D.int (i : Int), S)) else none
  | .indexT, .tup xs, [x] => (pyds xs).bind fun ds => (pyd x).bind fun d => if SeqAt.shaped d = true ∧ SeqAt.shaped (.list ds) = true then ((ds.findIdx? fun y => PyData.eqv y d).map fun (i : Nat) => (D.int (i : Int), S)) else none
  | .count, a, [x] => ((listOf S a).bind pyds).bind fun ds => (pyd x).bind fun d => if SeqAt.shaped d = true ∧ SeqAt.shaped (.list ds) = true then some (D.int ((ds.countP fun y => PyData.eqv y d : Nat) : Int), S) else none
  | .get1, .ref d, [k] => match dGet S d k with
    | some r => some ((r.getD .none), S)
    | none => none
  | .get2, .ref d, [k, x] => match dGet S d k with
    | some r => some ((r.getD x), S)
    | none => none
  | .split, .str z, [.str sep] => if sep.length ≠ 0 ∧ z.length + 2 ≤ line then some ((.list ((Txt.split z sep).map .str)), S) else none
  | .join, .str z, [x] => match (seqOf S x).bind strsOf with
    | some xs => if (xs.map (·.length)).sum + xs.length * z.length ≤ 16777216 then some ((.str (Txt.join z xs)), S) else none
    | none => none
  | _, _, _ => none
/-- no dict that is locked -/
def dictK : List Key → Option String
  | [] => some "dict"
  | _ => none
/-- the built-in type of a value -/
def kindOf (S : Store) : D → Option String
  | .none => some "NoneType"
  | .bool _ => some "bool"
  | .int _ => some "int"
  | .str _ => some "str"
  | .tup _ => some "tuple"
  | .list _ => some "list"
  | .dict ks _ => dictK ks
  | .ref n => match S[n]? with
    | some (.list _) => some "list"
    | some (.dK _) => some "dict"
    | some (.dT _) => some "dict"
    | _ => none
  | _ => none
def subB (t n : String) : Bool := t == n || (t == "bool" && n == "int")
def kinds : List String := ["NoneType", "bool", "int", "str", "tuple", "list", "dict"]
def clsOf (S : Store) : D → Option (Nat × List D)
  | .obj c fs => some (c, fs)
  | .ref n => match S[n]? with
    | some (.inst c fs) => some (c, fs)
    | _ => none
  | _ => none
/-- of an own class -/
def isOwn (P : Prog) (S : Store) (d : D) (c : Nat) : Option Bool := match d with
  | .exc k _ => if (P.exc k).isSome then some (P.sub k c) else none
  | d => match clsOf S d with
    | some (k, _) => if (P.init k).isSome then some (P.sub k c) else none
    | none => (kindOf S d).map fun _ => false
def isTy (P : Prog) (S : Store) (d : D) : Ty → Option Bool
  | .b n => if n ∈ kinds then (kindOf S d).map fun t => subB t n else none
  | .cls c => if P.isc c then isOwn P S d c else none
  | .exc n => match d with
    | .exc k _ => some (P.subT k n)
    | _ => none
/-- any of some kinds, asked from the left -/
def isTys (P : Prog) (S : Store) (d : D) : List Ty → Option Bool
  | [] => some false
  | t :: ts => match isTy P S d t with
    | some true => some true
    | some false => isTys P S d ts
    | none => none
def fillB {α : Type} (ks : List Str) (zs : List α) : List (Str × Option α) → Option (List α)
  | [] => some []
  | (p, d) :: r => match ((ks.zip zs).lookup p).or d, fillB ks zs r with
    | some v, some vs => some (v :: vs)
    | _, _ => none
def withDfl {α : Type} (ps : List Str) (dfl : List α) : List (Str × Option α) := ps.zip (List.replicate (ps.length - dfl.length) none ++ dfl.map some)
def bindF (f : Fn) (vs : List D) (ks : List Str) (zs : List D) : Option (List D) :=
  if f.star then (if ks = [] ∧ zs = [] ∧ f.dfl = [] ∧ f.ps.length ≤ vs.length ∧ vs.length ≤ line then some (vs.take f.ps.length ++ [.tup (vs.drop f.ps.length)]) else none)
  else if vs.length ≤ f.ps.length ∧ ks.length = zs.length ∧ f.dfl.length ≤ f.ps.length ∧ f.ps.Nodup ∧ ks.Nodup ∧ (∀ k ∈ ks, k ∈ f.ps.drop vs.length) then (fillB ks zs ((withDfl f.ps f.dfl).drop vs.length)).map (vs ++ ·)
  else none
mutual
def asg : Tg → D → Env → Option Env
  | .n i, d, η => if i < η.length then some (η.set i (some d)) else none
  | .t ts, .tup xs, η => asgs ts xs η
  | .t _, _, _ => none
def asgs : List Tg → List D → Env → Option Env
  | [], [], η => some η
  | t :: ts, x :: xs, η => (asg t x η).bind (asgs ts xs)
  | _, _, _ => none
end
def wipeD (η : Env) : List Nat → Env
  | [] => η
  | v :: vs => (wipeD η vs).set v none
def pairUp : List D → List D → List D
  | x :: xs, y :: ys => .tup [x, y] :: pairUp xs ys
  | _, _ => []
def countUp (k : Int) : List D → List D
  | [] => []
  | x :: xs => .tup [.int k, x] :: countUp (k + 1) xs
mutual
def tgNs : Tg → List Nat
  | .n i => [i]
  | .t ts => tgsNs ts
def tgsNs : List Tg → List Nat
  | [] => []
  | t :: ts => tgNs t ++ tgsNs ts
end
def pureSeq : D → Option (List D)
  | .list xs => some xs
  | .tup xs => some xs
  | .str z => some (z.cps.toList.map fun c => .str ⟨#[c]⟩)
  | _ => none
def items (k : ItK) (vs : List D) : Option (List D) := match k, vs with
  | .seq, [x] => pureSeq x
  | .rng1, [.int n] => if rangeOk 0 n then some (rangeD 0 n) else none
  | .rng2, [.int a, .int b] => if rangeOk a b then some (rangeD a b) else none
  | .enumL, [.list xs] => some (countUp 0 xs)
  | .enumT, [.tup xs] => some (countUp 0 xs)
  | .zipL, [.list xs, .list ys] => some (pairUp xs ys)
  | .zipT, [.tup xs, .tup ys] => some (pairUp xs ys)
  | .vals, [.dict _ xs] => some xs
  | _, _ => none
/-- what is raised within a block ends everything -/
def calm {α : Type} (m : M α) : M α := fun S => match m S with
  | .exc _ _ => .bad
  | r => r
/-- one more item for the list in a cell -/
def push (n : Nat) (y : D) : M Unit := fun S => match S[n]? with
  | some (.list acc) => if acc.length < line then .ok () (S.set n (.list (acc ++ [y]))) else .bad
  | _ => .bad
/-- the turns of a comprehension: what a turn gives goes into cell n -/
def lcLoop (turn : D → M (Option D)) (n : Nat) : List D → M Unit
  | [] => pure ()
  | x :: xs => do
    let r ← calm (turn x)
    match r with
    | none => lcLoop turn n xs
    | some y => do
      push n y
      lcLoop turn n xs
def lc2Loop (turn : D → M Unit) : List D → M Unit
  | [] => pure ()
  | x :: xs => do
    calm (turn x)
    lc2Loop turn xs
def lcEnd (mu : Bool) (n : Nat) : M D := if mu then pure (.ref n) else eff (freeze (.ref n))
abbrev Call := Nat → List D → M D
@[irreducible] def callM (P : Prog) (Φ : Call) (f : Nat) (vs : List D) (ks : List Str) (zs : List D) : M D := fun S => match P.fn f with
  | some fn => match bindF fn vs ks zs with
    | some ds => Φ f ds S
    | none => .bad
  | none => .bad
/-- a field of an exception -/
def getX (P : Prog) (c : Nat) (fs : List D) (f : Str) : Option D := match P.exc c with
  | some (ps, _) => (ps.zip fs).lookup f
  | none => none
def getI (P : Prog) (Φ : Call) (d : D) (f : Str) : M D := fun S => match clsOf S d with
  | some (c, fs) => match P.attr c f with
    | some (.fld k) => opt fs[k]? S
    | some (.prop g) => calm (callM P Φ g [d] [] []) S
    | some (.con v) => .bad
    | none => .bad
  | none => .bad
def getA (P : Prog) (Φ : Call) (d : D) (f : Str) : M D := match d with
  | .exc c fs => opt (getX P c fs f)
  | d => getI P Φ d f
def setA (P : Prog) (d : D) (f : Str) (v : D) (S : Store) : Option (D × Store) := match d with
  | .ref n => match S[n]? with
    | some (.inst c fs) => match P.attr c f with
      | some (.fld k) => if k < fs.length then some (.none, S.set n (.inst c (fs.set k v))) else if k = fs.length then some (.none, S.set n (.inst c (fs ++ [v]))) else none
      | _ => none
    | _ => none
  | _ => none
def instM (P : Prog) (c : Nat) (m : Str) : Option Nat := match P.meth c m with
  | some (.inst f) => some f
  | _ => none
def statM (P : Prog) (c : Nat) (m : Str) : Option Nat := match P.meth c m with
  | some (.stat f) => some f
  | _ => none
def clsM (P : Prog) (c : Nat) (m : Str) : Option Nat := match P.meth c m with
  | some (.cls f) => some f
  | _ => none
def asCls : D → Option Nat
  | .cls c => some c
  | _ => none
def clsNo (S : Store) (d : D) : Option Nat := (clsOf S d).map (·.1)
def optS {α : Type} (f : Store → Option α) : M α := fun S => opt (f S) S
def mkM (P : Prog) (Φ : Call) (fz : Bool) (c : Nat) (vs : List D) (ks : List Str) (zs : List D) : M D := fun S => match P.init c with
  | some f => match callM P Φ f (.ref S.length :: vs) ks zs (S ++ [.inst c []]) with
    | .ok .none S' => if fz then eff (freeze (.ref S.length)) S' else .ok (.ref S.length) S'
    | .exc e S' => .exc e S'
    | _ => .bad
  | none => .bad
def mkxM (P : Prog) (c : Nat) (vs : List D) (ks : List Str) (zs : List D) : M D := fun S => match P.exc c with
  | some (ps, _) => if vs.length = ps.length ∧ ks = [] ∧ zs = [] then .ok (.exc c vs) S else .bad
  | none => .bad
section
variable (P : Prog) (Φ : Call)
mutual
noncomputable def ev : E → Env → M D
  | .v i, η => fun S => match η[i]? with
    | some (some d) => .ok d S
    | _ => .bad
  | .c d, _ => fun S => .ok d S
  | .g n, _ => opt (P.con n)
  | .tup es, η => do
    let vs ← evs es η
    grd (decide (vs.length ≤ line))
    pure (.tup vs)
  | .list es, η => do
    let vs ← evs es η
    grd (decide (vs.length ≤ line))
    pure (.list vs)
  | .mlist es, η => do
    let vs ← evs es η
    grd (decide (vs.length ≤ line))
    let n ← alloc (.list vs)
    pure (.ref n)
  | .st _, _ => bad
  | .mdict es, η => do
    let n ← alloc (.dK [])
    let vs ← evs es η
    let kvs ← opt (pairsOf vs)
    fill n kvs
    pure (.ref n)
  | .mdictT, _ => do
    let n ← alloc (.dT [])
    pure (.ref n)
  | .edict, _ => pure (.dict [] [])
  | .bin o a b, η => do
    let x ← ev a η
    let y ← ev b η
    pur fun S => binop o S x y
  | .mulm a b, η => do
    let x ← ev a η
    let y ← ev b η
    let xs ← optS (fun S => mulL S x y)
    let n ← alloc (.list xs)
    pure (.ref n)
  | .addm a b, η => do
    let x ← ev a η
    let y ← ev b η
    let xs ← optS (fun S => addL S x y)
    let n ← alloc (.list xs)
    pure (.ref n)
  | .rngm a, η => do
    let x ← ev a η
    let n ← opt (rngN x)
    let m ← alloc (.list (rangeD 0 n))
    pure (.ref m)
  | .neg a, η => do
    let x ← ev a η
    match x with
    | .int i => pure (.int (-i))
    | _ => bad
  | .cmp o a b, η => do
    let x ← ev a η
    let y ← ev b η
    pur fun S => cmpop o S x y
  | .cmp2 o o2 a b c, η => do
    let x ← ev a η
    let y ← ev b η
    let r ← pur fun S => cmpop o S x y
    let t ← truth r
    if t then do
      let z ← ev c η
      pur fun S => cmpop o2 S y z
    else pure (.bool false)
  | .isN pos a, η => do
    let x ← ev a η
    match x with
    | .none => pure (.bool pos)
    | _ => pure (.bool (!pos))
  | .isB pos b a, η => do
    let x ← ev a η
    match x with
    | .bool c => pure (.bool ((b == c) == pos))
    | _ => bad
  | .eqE a, η => do
    let x ← ev a η
    pur fun S => emptyT S x (.tup [])
  | .and_ es, η => evAnd es η
  | .or_ es, η => evOr es η
  | .not_ a, η => do
    let x ← ev a η
    let t ← truth x
    pure (.bool (!t))
  | .ite c a b, η => do
    let x ← ev c η
    let t ← truth x
    if t then ev a η
    else ev b η
  | .ix a i, η => do
    let x ← ev a η
    let y ← ev i η
    pur fun S => ixop S x y
  | .sl a lo hi, η => do
    let x ← ev a η
    let l ← ev lo η
    let l' ← opt (partE lo l)
    let h ← ev hi η
    let h' ← opt (partE hi h)
    pur fun S => slop S x l' h'
  | .slm a lo hi, η => do
    let x ← ev a η
    let l ← ev lo η
    let l' ← opt (partE lo l)
    let h ← ev hi η
    let h' ← opt (partE hi h)
    let xs ← optS (fun S => slL S x l' h')
    let n ← alloc (.list xs)
    pure (.ref n)
  | .vals a, η => do
    let x ← ev a η
    eff (killD x)
  | .rev a, η => do
    let x ← ev a η
    pur fun S => revop S x
  | .attr a f, η => do
    let x ← ev a η
    getA P Φ x f
  | .cattr c f, _ => match P.attr c f with
    | some (.con d) => pure d
    | _ => bad
  | .call f es ks kes, η => do
    let vs ← evs es η
    let zs ← evs kes η
    callM P Φ f vs ks zs
  | .bc b es, η => do
    let vs ← evs es η
    pur fun S => bfn b S vs
  | .isi a ts, η => do
    let x ← ev a η
    pur fun S => (isTys P S x ts).map .bool
  | .meth a m es ks kes, η => do
    let x ← ev a η
    let c ← optS (fun S => clsNo S x)
    let f ← opt (instM P c m)
    let vs ← evs es η
    let zs ← evs kes η
    callM P Φ f (x :: vs) ks zs
  | .bm m a es, η => do
    let x ← ev a η
    grdS fun S => bmTy m S x
    let vs ← evs es η
    eff fun S => bmeth m x S vs
  | .cm c m es ks kes, η => match P.meth c m with
    | some (.cls f) => do
      let vs ← evs es η
      let zs ← evs kes η
      callM P Φ f (.cls c :: vs) ks zs
    | _ => bad
  | .cs c m es ks kes, η => do
    let f ← opt (statM P c m)
    let vs ← evs es η
    let zs ← evs kes η
    callM P Φ f vs ks zs
  | .cmv a m es ks kes, η => do
    let x ← ev a η
    let c ← opt (asCls x)
    let f ← opt (clsM P c m)
    let vs ← evs es η
    let zs ← evs kes η
    callM P Φ f (.cls c :: vs) ks zs
  | .mk f c es ks kes, η => do
    let vs ← evs es η
    let zs ← evs kes η
    mkM P Φ f c vs ks zs
  | .mkv f a es, η => do
    let x ← ev a η
    let c ← opt ((asCls x).bind fun c => (P.init c).map fun _ => c)
    let vs ← evs es η
    mkM P Φ f c vs [] []
  | .mkx c es ks kes, η => do
    grd (P.exc c).isSome
    let vs ← evs es η
    let zs ← evs kes η
    mkxM P c vs ks zs
  | .lc mu own k ia tg cond elt, η => do
    let vs ← evs ia η
    let xs ← opt (items k vs)
    let n ← alloc (.list [])
    lcLoop (fun x => do
      let η' ← opt (asg tg x (wipeD η own))
      let t ← evTests cond η'
      if t then do
        let y ← ev elt η'
        pure (some y)
      else pure none) n xs
    lcEnd mu n
  | .lc2 own k ia tg cond k2 ia2 own2 tg2 cond2 elt, η => do
    let vs ← evs ia η
    let xs ← opt (items k vs)
    let n ← alloc (.list [])
    lc2Loop (fun x => do
      let η1 ← opt (asg tg x (wipeD η own))
      let t ← evTests cond η1
      if t then do
        let ws ← evs ia2 η1
        let us ← opt (items k2 ws)
        lcLoop (fun z => do
          let η2 ← opt (asg tg2 z (wipeD η1 own2))
          let t2 ← evTests cond2 η2
          if t2 then do
            let y ← ev elt η2
            pure (some y)
          else pure none) n us
      else pure ()) xs
    lcEnd false n
  | .fz a, η => do
    let x ← ev a η
    eff (freeze x)
noncomputable def evs : List E → Env → M (List D)
  | [], _ => pure []
  | .st e :: es, η => do
    let x ← ev e η
    let xs ← optS (fun S => seqOf S x)
    let ys ← evs es η
    pure (xs ++ ys)
  | e :: es, η => do
    let x ← ev e η
    let ys ← evs es η
    pure (x :: ys)
noncomputable def evAnd : List E → Env → M D
  | [], _ => bad
  | [e], η => ev e η
  | e :: es, η => do
    let x ← ev e η
    let t ← truth x
    if t then evAnd es η
    else pure (.bool false)
noncomputable def evOr : List E → Env → M D
  | [], _ => bad
  | [e], η => ev e η
  | e :: es, η => do
    let x ← ev e η
    let t ← truth x
    if t then pure (.bool true)
    else evOr es η
noncomputable def evTests : List E → Env → M Bool
  | [], _ => pure true
  | e :: es, η => do
    let x ← ev e η
    let t ← truth x
    if t then evTests es η
    else pure false
end
end
inductive Fl where
  | next | ret (d : D) | brk | cont
inductive XR where
  | fin (f : Fl) (η : Env) (S : Store) | exc (e : D) (η : Env) (S : Store) | bad
/-- an expression's value, then what follows -/
@[inline] def thenX {α : Type} (m : M α) (η : Env) (S : Store) (k : α → Store → XR) : XR := match m S with
  | .ok a S' => k a S'
  | .exc e S' => .exc e η S'
  | .bad => .bad
/-- turns of a while -/
def whileX (c : Env → M Bool) (b : Env → Store → XR) : Nat → Env → Store → XR
  | 0, _, _ => .bad
  | n + 1, η, S => thenX (c η) η S fun t S1 => if t then (match b η S1 with
      | .fin .next η2 S2 => whileX c b n η2 S2
      | .fin .cont η2 S2 => whileX c b n η2 S2
      | .fin .brk η2 S2 => .fin .next η2 S2
      | r => r) else .fin .next η S1
def forX (tg : Tg) (b : Env → Store → XR) : List D → Env → Store → XR
  | [], η, S => .fin .next η S
  | x :: xs, η, S => match asg tg x η with
    | none => .bad
    | some η1 => match b η1 S with
      | .fin .next η2 S2 => forX tg b xs η2 S2
      | .fin .cont η2 S2 => forX tg b xs η2 S2
      | .fin .brk η2 S2 => .fin .next η2 S2
      | r => r
section
variable (P : Prog) (Φ : Call)
mutual
noncomputable def ex : St → Env → Store → XR
  | .ex e, η, S => thenX (ev P Φ e η) η S fun _ S1 => .fin .next η S1
  | .ret e, η, S => thenX (ev P Φ e η) η S fun d S1 => .fin (.ret d) η S1
  | .set tg e, η, S => thenX (ev P Φ e η) η S fun d S1 => match asg tg d η with
    | some η1 => .fin .next η1 S1
    | none => .bad
  | .seti a i e, η, S => thenX (ev P Φ e η) η S fun v S1 => thenX (ev P Φ a η) η S1 fun x S2 => thenX (ev P Φ i η) η S2 fun y S3 => thenX (eff (setop x y v)) η S3 fun _ S4 => .fin .next η S4
  | .seta a f e, η, S => thenX (ev P Φ e η) η S fun v S1 => thenX (ev P Φ a η) η S1 fun x S2 => thenX (eff (setA P x f v)) η S2 fun _ S3 => .fin .next η S3
  | .aug i o e, η, S => thenX (ev P Φ (.v i) η) η S fun x S1 => thenX (ev P Φ e η) η S1 fun y S2 => thenX (pur fun S => binop o S x y) η S2 fun z S3 => match asg (.n i) z η with
    | some η1 => .fin .next η1 S3
    | none => .bad
  | .auga a f o e, η, S => thenX (ev P Φ a η) η S fun d S1 => thenX (getA P Φ d f) η S1 fun x S2 => thenX (ev P Φ e η) η S2 fun y S3 => thenX (pur fun S => binop o S x y) η S3 fun z S4 => thenX (eff (setA P d f z)) η S4 fun _ S5 => .fin .next η S5
  | .ite c a b, η, S => thenX (do
      let x ← ev P Φ c η
      truth x) η S fun t S2 => if t then exs a η S2 else exs b η S2
  | .while_ n c b, η, S => whileX (fun η => do
      let x ← ev P Φ c η
      truth x) (fun η S => exs b η S) n η S
  | .for_ k ia tg b, η, S => thenX (evs P Φ ia η) η S fun vs S1 => match items k vs with
    | some xs => forX tg (fun η S => exs b η S) xs η S1
    | none => .bad
  | .raise e, η, S => thenX (ev P Φ e η) η S fun d S1 => match d with
    | .exc c fs => .exc (.exc c fs) η S1
    | _ => .bad
  | .try_ b cs as h, η, S => if cs.all P.xk then (match exs b η S with
    | .exc (.exc c fs) η1 S1 => if (P.exc c).isSome then (if cs.any (fun k => P.sub c k) then (match as with
        | some i => if i < η1.length then (match exs h (η1.set i (some (.exc c fs))) S1 with
          | .fin f η2 S2 => .fin f (η2.set i none) S2
          | r => r) else .bad
        | none => exs h η1 S1) else .exc (.exc c fs) η1 S1) else .bad
    | r => r) else .bad
  | .pass, η, S => .fin .next η S
  | .brk, η, S => .fin .brk η S
  | .cont, η, S => .fin .cont η S
  | .dead, _, _ => .bad
  | .par is es, η, S => thenX (evs P Φ es η) η S fun vs S1 => match asgs (is.map .n) vs η with
    | some η1 => .fin .next η1 S1
    | none => .bad
noncomputable def exs : List St → Env → Store → XR
  | [], η, S => .fin .next η S
  | s :: ss, η, S => match ex s η S with
    | .fin .next η1 S1 => exs ss η1 S1
    | r => r
end
/-- a function's body at its arguments -/
noncomputable def runF (f : Fn) (ds : List D) : M D := fun S => match exs P Φ f.body (ds.map some ++ List.replicate (f.n - ds.length) none) S with
  | .fin .next _ S' => .ok .none S'
  | .fin (.ret d) _ S' => .ok d S'
  | .exc e _ S' => .exc e S'
  | _ => .bad
end
/-- the calls, so many levels deep -/
noncomputable def runS (P : Prog) : Nat → Call
  | 0 => fun _ _ => bad
  | n + 1 => fun f ds => match P.fn f with
    | some fn => runF P (runS P n) fn ds
    | none => bad
/-- shut: nothing is to run by looking -/
@[irreducible] noncomputable def run (P : Prog) (n : Nat) : Call := runS P n
theorem run_zero {P : Prog} : run P 0 = fun _ _ => bad := by
  unfold run
  rfl
theorem run_succ {P : Prog} {n : Nat} : run P (n + 1) = fun f ds => match P.fn f with
    | some fn => runF P (run P n) fn ds
    | none => bad := by
  unfold run
  rfl
end Mi
set_option Elab.async false
set_option linter.all false
namespace Mi
open PySem PySem.Spec PyProof.Rows L2
abbrev Rho := List (Option Addr)
def live (ρ : Rho) (a : Addr) : Prop := ∃ i : Nat, ρ[i]? = some (some a)
/-- where the classes stand, their instances' fields in order -/
structure Lk where
  K : PySem.W.Frag
  ca : Nat → Addr
  fn : Nat → List Str
/-- a list, a tuple that nobody writes any more -/
def LstF (L : Lk) (ρ : Rho) (H : Hp) (a : Addr) (vs : List V) : Prop := (Rd H a (.lst vs) ∧ ¬ live ρ a) ∨
  ∃ (its : List Value) (n : Nat), L.K.lookup a = some { cls := .type "list", data := .seq its.toArray n } ∧ its.length ≤ sizeLine ∧ Vals vs its
def TupF (L : Lk) (ρ : Rho) (H : Hp) (a : Addr) (vs : List V) : Prop := H a = some (.tup vs) ∧ ¬ live ρ a
theorem LstF.sq {L : Lk} {ρ : Rho} {H : Hp} {a : Addr} {vs : List V} (h : LstF L ρ H a vs) : SqL L.K H a vs := by
  rcases h with ⟨h, _⟩ | ⟨its, n, h1, h2, h3⟩
  · exact .inl h
  · exact .inr ⟨_, its.toArray, n, h1, rfl, rfl, rfl, by simpa using h2, by simpa using h3⟩
theorem TupF.sq {L : Lk} {ρ : Rho} {H : Hp} {a : Addr} {vs : List V} (h : TupF L ρ H a vs) : SqT L.K H a vs := SqT.of h.1
/-- an exception's object, of a class, its own dict at dx: by what is true of it -/
def exHO (C dx : Addr) : HO := .ext fun h => ∃ (a : Addr) (oe : Obj) (vs : Array Value), h.get? a = some oe ∧ oe.cls = .ref C ∧ oe.dict = some dx ∧ oe.data = .fields vs
/-- .. at a -/
def exAt (a C dx : Addr) : HO := .ext fun h => ∃ (oe : Obj) (vs : Array Value), h.get? a = some oe ∧ oe.cls = .ref C ∧ oe.dict = some dx ∧ oe.data = .fields vs
/-- a dict as a value; locked while its values are walked -/
def DcF (ρ : Rho) (H : Hp) (ks : List Key) (a : Addr) (vs : List V) : Prop := (H a = some (.dK (ks.zip vs)) ∨ (ks ≠ [] ∧ ∃ o, H a = some (.frz o (.dK (ks.zip vs))))) ∧ ks.Nodup ∧ ¬ live ρ a ∧ ks.length = vs.length
mutual
def RD (L : Lk) (ρ : Rho) (H : Hp) : D → V → Prop
  | .none, v => v = .non
  | .bool b, v => v = .bl b
  | .int i, v => v = .int i
  | .str s, v => v = .str s
  | .tup xs, v => ∃ a vs, v = .ref a ∧ TupF L ρ H a vs ∧ RDs L ρ H xs vs
  | .list xs, v => ∃ a vs, v = .ref a ∧ LstF L ρ H a vs ∧ RDs L ρ H xs vs
  | .dict ks xs, v => ∃ a vs, v = .ref a ∧ DcF ρ H ks a vs ∧ RDs L ρ H xs vs
  | .obj c fs, v => ∃ a dx vs, v = .ref a ∧ H a = some (.ins (L.ca c) dx ((L.fn c).zip vs)) ∧ ¬ live ρ a ∧ vs.length ≤ (L.fn c).length ∧ RDs L ρ H fs vs
  | .exc c fs, v => ∃ a dx vs, v = .ref a ∧ H a = some (exAt a (L.ca c) dx) ∧ ¬ live ρ a ∧ H dx = some (.xd ((L.fn c).zip vs)) ∧ ¬ live ρ dx ∧ vs.length = (L.fn c).length ∧ RDs L ρ H fs vs
  | .cls c, v => v = .ref (L.ca c)
  | .ref n, v => ∃ a, v = .ref a ∧ (ρ[n]? = some (some a) ∨ ρ[n]? = some none)
def RDs (L : Lk) (ρ : Rho) (H : Hp) : List D → List V → Prop
  | [], vs => vs = []
  | d :: ds, vs => ∃ v ws, vs = v :: ws ∧ RD L ρ H d v ∧ RDs L ρ H ds ws
end
/-- what happens in a step: store addresses stay or are given up, all else that is tracked stays -/
structure Ext (ρ : Rho) (H : Hp) (ρ' : Rho) (H' : Hp) : Prop where
  len : ρ.length ≤ ρ'.length
  pre : ∀ i, i < ρ.length → ρ'[i]? = ρ[i]? ∨ ρ'[i]? = some none
  keep : ∀ b o, H b = some o → ¬ live ρ b → H' b = some o ∧ ¬ live ρ' b
theorem Ext.refl (ρ : Rho) (H : Hp) : Ext ρ H ρ H := ⟨Nat.le_refl _, fun _ _ => .inl rfl, fun _ _ e n => ⟨e, n⟩⟩
theorem Ext.trans {ρ ρ1 ρ2 : Rho} {H H1 H2 : Hp} (a : Ext ρ H ρ1 H1) (b : Ext ρ1 H1 ρ2 H2) : Ext ρ H ρ2 H2 := by
  refine ⟨Nat.le_trans a.len b.len, fun i hi => ?_, fun c o e n => ?_⟩
  · rcases b.pre i (Nat.lt_of_lt_of_le hi a.len) with h | h
    · rcases a.pre i hi with k | k
      · exact .inl (h.trans k)
      · exact .inr (h.trans k)
    · exact .inr h
  · obtain ⟨e1, n1⟩ := a.keep c o e n
    exact b.keep c o e1 n1
section
variable {L : Lk} {ρ ρ' : Rho} {H H' : Hp}
theorem LstF.mono {a : Addr} {vs : List V} (x : Ext ρ H ρ' H') (h : LstF L ρ H a vs) : LstF L ρ' H' a vs := by
  rcases h with ⟨h | ⟨o, h⟩, n⟩ | h
  · obtain ⟨e, n'⟩ := x.keep _ _ h n
    exact .inl ⟨.inl e, n'⟩
  · obtain ⟨e, n'⟩ := x.keep _ _ h n
    exact .inl ⟨.inr ⟨o, e⟩, n'⟩
  · exact .inr h
theorem TupF.mono {a : Addr} {vs : List V} (x : Ext ρ H ρ' H') (h : TupF L ρ H a vs) : TupF L ρ' H' a vs := x.keep _ _ h.1 h.2
theorem DcF.mono {ks : List Key} {a : Addr} {vs : List V} (x : Ext ρ H ρ' H') (h : DcF ρ H ks a vs) : DcF ρ' H' ks a vs := by
  obtain ⟨t, nd, n, l⟩ := h
  rcases t with t | ⟨hk, o, t⟩
  · obtain ⟨t', n'⟩ := x.keep _ _ t n
    exact ⟨.inl t', nd, n', l⟩
  · obtain ⟨t', n'⟩ := x.keep _ _ t n
    exact ⟨.inr ⟨hk, o, t'⟩, nd, n', l⟩
mutual
theorem RD.mono (x : Ext ρ H ρ' H') : ∀ (d : D) (v : V), RD L ρ H d v → RD L ρ' H' d v
  | .none, v, h => by simpa only [RD] using h
  | .bool b, v, h => by simpa only [RD] using h
  | .int i, v, h => by simpa only [RD] using h
  | .str s, v, h => by simpa only [RD] using h
  | .cls c, v, h => by simpa only [RD] using h
  | .tup xs, v, h => by
    simp only [RD] at h ⊢
    obtain ⟨a, vs, e, t, r⟩ := h
    exact ⟨a, vs, e, t.mono x, RDs.mono x xs vs r⟩
  | .list xs, v, h => by
    simp only [RD] at h ⊢
    obtain ⟨a, vs, e, t, r⟩ := h
    exact ⟨a, vs, e, t.mono x, RDs.mono x xs vs r⟩
  | .dict ks xs, v, h => by
    simp only [RD] at h ⊢
    obtain ⟨a, vs, e, t, r⟩ := h
    exact ⟨a, vs, e, t.mono x, RDs.mono x xs vs r⟩
  | .obj c fs, v, h => by
    simp only [RD] at h ⊢
    obtain ⟨a, dx, vs, e, t, n, l, r⟩ := h
    obtain ⟨t', n'⟩ := x.keep _ _ t n
    exact ⟨a, dx, vs, e, t', n', l, RDs.mono x fs vs r⟩
  | .exc c fs, v, h => by
    simp only [RD] at h ⊢
    obtain ⟨a, dx, vs, e, t, n, t2, n2, l, r⟩ := h
    obtain ⟨t', n'⟩ := x.keep _ _ t n
    obtain ⟨t2', n2'⟩ := x.keep _ _ t2 n2
    exact ⟨a, dx, vs, e, t', n', t2', n2', l, RDs.mono x fs vs r⟩
  | .ref n, v, h => by
    simp only [RD] at h ⊢
    obtain ⟨a, e, h⟩ := h
    refine ⟨a, e, ?_⟩
    have hn : n < ρ.length := by
      rcases h with h | h <;> exact (List.getElem?_eq_some_iff.mp h).1
    rcases x.pre n hn with p | p
    · rw [p]; exact h
    · exact .inr p
theorem RDs.mono (x : Ext ρ H ρ' H') : ∀ (ds : List D) (vs : List V), RDs L ρ H ds vs → RDs L ρ' H' ds vs
  | [], vs, h => by simpa only [RDs] using h
  | d :: ds, vs, h => by
    simp only [RDs] at h ⊢
    obtain ⟨v, ws, e, r, rs⟩ := h
    exact ⟨v, ws, e, RD.mono x d v r, RDs.mono x ds ws rs⟩
end
theorem RDs.length : ∀ {ds : List D} {vs : List V}, RDs L ρ H ds vs → ds.length = vs.length
  | [], vs, h => by simp only [RDs] at h; simp [h]
  | d :: ds, vs, h => by
    simp only [RDs] at h
    obtain ⟨v, ws, rfl, r, rs⟩ := h
    simp [RDs.length rs]
theorem RDs.nil : RDs L ρ H [] [] := by simp only [RDs]
theorem RDs.cons {d : D} {ds : List D} {v : V} {vs : List V} (h : RD L ρ H d v) (r : RDs L ρ H ds vs) : RDs L ρ H (d :: ds) (v :: vs) := by
  simp only [RDs]
  exact ⟨v, vs, rfl, h, r⟩
theorem RDs.get : ∀ {ds : List D} {vs : List V} {i : Nat} {d : D}, RDs L ρ H ds vs → ds[i]? = some d → ∃ v, vs[i]? = some v ∧ RD L ρ H d v
  | [], vs, i, d, h, e => by simp at e
  | x :: ds, vs, i, d, h, e => by
    simp only [RDs] at h
    obtain ⟨v, ws, rfl, r, rs⟩ := h
    cases i with
    | zero =>
      simp at e
      subst e
      exact ⟨v, by simp, r⟩
    | succ i =>
      simp at e
      obtain ⟨u, h1, h2⟩ := RDs.get rs e
      exact ⟨u, by simpa using h1, h2⟩
theorem RDs.append : ∀ {ds es : List D} {vs ws : List V}, RDs L ρ H ds vs → RDs L ρ H es ws → RDs L ρ H (ds ++ es) (vs ++ ws)
  | [], es, vs, ws, h, r => by
    simp only [RDs] at h
    subst h
    exact r
  | d :: ds, es, vs, ws, h, r => by
    simp only [RDs] at h
    obtain ⟨v, us, rfl, q, qs⟩ := h
    exact RDs.cons q (RDs.append qs r)
theorem RDs.take : ∀ {ds : List D} {vs : List V} (n : Nat), RDs L ρ H ds vs → RDs L ρ H (ds.take n) (vs.take n)
  | [], vs, n, h => by
    simp only [RDs] at h
    subst h
    simpa using RDs.nil
  | d :: ds, vs, 0, h => by simpa using RDs.nil
  | d :: ds, vs, n + 1, h => by
    simp only [RDs] at h
    obtain ⟨v, us, rfl, q, qs⟩ := h
    simpa using RDs.cons q (RDs.take n qs)
theorem RDs.drop : ∀ {ds : List D} {vs : List V} (n : Nat), RDs L ρ H ds vs → RDs L ρ H (ds.drop n) (vs.drop n)
  | [], vs, n, h => by
    simp only [RDs] at h
    subst h
    simpa using RDs.nil
  | d :: ds, vs, 0, h => by simpa using h
  | d :: ds, vs, n + 1, h => by
    simp only [RDs] at h
    obtain ⟨v, us, rfl, q, qs⟩ := h
    simpa using RDs.drop n qs
theorem RDs.set {d : D} {v : V} (r : RD L ρ H d v) : ∀ {ds : List D} {vs : List V} (i : Nat), RDs L ρ H ds vs → RDs L ρ H (ds.set i d) (vs.set i v)
  | [], vs, i, h => by
    simp only [RDs] at h
    subst h
    simpa using RDs.nil
  | x :: ds, vs, 0, h => by
    simp only [RDs] at h
    obtain ⟨u, us, rfl, q, qs⟩ := h
    simpa using RDs.cons r qs
  | x :: ds, vs, i + 1, h => by
    simp only [RDs] at h
    obtain ⟨u, us, rfl, q, qs⟩ := h
    simpa using RDs.cons q (RDs.set r i qs)
theorem RDs.erase : ∀ {ds : List D} {vs : List V} (i : Nat), RDs L ρ H ds vs → RDs L ρ H (ds.eraseIdx i) (vs.eraseIdx i)
  | [], vs, i, h => by
    simp only [RDs] at h
    subst h
    simpa using RDs.nil
  | x :: ds, vs, 0, h => by
    simp only [RDs] at h
    obtain ⟨u, us, rfl, q, qs⟩ := h
    simpa using qs
  | x :: ds, vs, i + 1, h => by
    simp only [RDs] at h
    obtain ⟨u, us, rfl, q, qs⟩ := h
    simpa using RDs.cons q (RDs.erase i qs)
theorem RDs.reverse : ∀ {ds : List D} {vs : List V}, RDs L ρ H ds vs → RDs L ρ H ds.reverse vs.reverse
  | [], vs, h => by
    simp only [RDs] at h
    subst h
    simpa using RDs.nil
  | x :: ds, vs, h => by
    simp only [RDs] at h
    obtain ⟨u, us, rfl, q, qs⟩ := h
    simpa using RDs.append (RDs.reverse qs) (RDs.cons q RDs.nil)
theorem RDs.dropLast {ds : List D} {vs : List V} (h : RDs L ρ H ds vs) : RDs L ρ H ds.dropLast vs.dropLast := by
  rw [List.dropLast_eq_take, List.dropLast_eq_take, h.length]
  exact RDs.take _ h
theorem RDs.rep {ds : List D} {vs : List V} (h : RDs L ρ H ds vs) : ∀ k : Nat, RDs L ρ H (List.replicate k ds).flatten (List.replicate k vs).flatten
  | 0 => by simpa using RDs.nil
  | k + 1 => by
    simp only [List.replicate_succ, List.flatten_cons]
    exact RDs.append h (RDs.rep h k)
end
def CR (L : Lk) (ρ : Rho) (H : Hp) : Cell → Addr → Prop
  | .list xs, a => ∃ vs, H a = some (.lst vs) ∧ RDs L ρ H xs vs
  | .dK kvs, a => ∃ vs, H a = some (.dK ((kvs.map (·.1)).zip vs)) ∧ (kvs.map (·.1)).Nodup ∧ RDs L ρ H (kvs.map (·.2)) vs
  | .dT kvs, a => ∃ vs, (H a = some (.dT ((kvs.map (·.1)).zip vs)) ∧ (kvs.map (·.1)).Nodup) ∧ RDs L ρ H (kvs.map (·.2)) vs
  | .inst c fs, a => ∃ dx vs, H a = some (.ins (L.ca c) dx ((L.fn c).zip vs)) ∧ vs.length ≤ (L.fn c).length ∧ RDs L ρ H fs vs
  | .dead, _ => False
structure SR (L : Lk) (ρ : Rho) (S : Store) (H : Hp) : Prop where
  len : ρ.length = S.length
  inj : ∀ (i j : Nat) (a : Addr), ρ[i]? = some (some a) → ρ[j]? = some (some a) → i = j
  cell : ∀ (i : Nat) (c : Cell), S[i]? = some c → (c = .dead ∧ ρ[i]? = some none) ∨ ∃ a, ρ[i]? = some (some a) ∧ CR L ρ H c a
theorem CR.some {L : Lk} {ρ : Rho} {H : Hp} {c : Cell} {a : Addr} (h : CR L ρ H c a) : ∃ o, H a = some o := by
  cases c with
  | list xs => obtain ⟨vs, e, _⟩ := h; exact ⟨_, e⟩
  | dK kvs => obtain ⟨vs, e, _⟩ := h; exact ⟨_, e⟩
  | dT kvs => obtain ⟨vs, ⟨e, _⟩, _⟩ := h; exact ⟨_, e⟩
  | inst c fs => obtain ⟨dx, vs, e, _⟩ := h; exact ⟨_, e⟩
  | dead => exact h.elim
theorem CR.mono {L : Lk} {ρ ρ' : Rho} {H H' : Hp} {c : Cell} {a : Addr} (x : Ext ρ H ρ' H') (e : H' a = H a) (h : CR L ρ H c a) : CR L ρ' H' c a := by
  cases c with
  | list xs => obtain ⟨vs, q, r⟩ := h; exact ⟨vs, e.trans q, r.mono x⟩
  | dK kvs => obtain ⟨vs, q, nd, r⟩ := h; exact ⟨vs, e.trans q, nd, r.mono x⟩
  | dT kvs => obtain ⟨vs, ⟨q, nd⟩, r⟩ := h; exact ⟨vs, ⟨e.trans q, nd⟩, r.mono x⟩
  | inst c fs => obtain ⟨dx, vs, q, l, r⟩ := h; exact ⟨dx, vs, e.trans q, l, r.mono x⟩
  | dead => exact h.elim
section
variable {L : Lk} {ρ : Rho} {S : Store} {H : Hp}
theorem SR.live_some (s : SR L ρ S H) {a : Addr} (h : live ρ a) : ∃ o, H a = some o := by
  obtain ⟨i, e⟩ := h
  have hi : i < S.length := by rw [← s.len]; exact (List.getElem?_eq_some_iff.mp e).1
  rcases s.cell i S[i] (List.getElem?_eq_getElem hi) with ⟨_, q⟩ | ⟨b, q, c⟩
  · rw [e] at q; cases q
  · rw [e] at q
    cases q
    exact c.some
theorem SR.notlive (s : SR L ρ S H) {a : Addr} (h : H a = none) : ¬ live ρ a := fun l => by
  obtain ⟨o, e⟩ := s.live_some l
  rw [h] at e; cases e
/-- a new object that nobody writes -/
theorem SR.ext_new (s : SR L ρ S H) {p : Addr} {o : HO} (hp : H p = none) : Ext ρ H ρ (upd H p o) :=
  ⟨Nat.le_refl _, fun _ _ => .inl rfl, fun b u e n => ⟨by rw [upd_ne (ne_of_none e hp)]; exact e, n⟩⟩
theorem SR.new (s : SR L ρ S H) {p : Addr} {o : HO} (hp : H p = none) : SR L ρ S (upd H p o) := by
  refine ⟨s.len, s.inj, fun i c e => ?_⟩
  rcases s.cell i c e with h | ⟨a, q, r⟩
  · exact .inl h
  · refine .inr ⟨a, q, r.mono (s.ext_new hp) ?_⟩
    obtain ⟨u, z⟩ := r.some
    rw [upd_ne (ne_of_none z hp)]
theorem live_snoc {p a : Addr} : live (ρ ++ [some p]) a ↔ live ρ a ∨ a = p := by
  constructor
  · rintro ⟨i, e⟩
    by_cases hi : i < ρ.length
    · rw [List.getElem?_append_left hi] at e
      exact .inl ⟨i, e⟩
    · rw [List.getElem?_append_right (by omega)] at e
      have : i - ρ.length = 0 := by
        cases q : i - ρ.length with
        | zero => rfl
        | succ k => rw [q] at e; simp at e
      rw [this] at e
      simp at e
      exact .inr e.symm
  · rintro (⟨i, e⟩ | rfl)
    · exact ⟨i, by rw [List.getElem?_append_left (List.getElem?_eq_some_iff.mp e).1]; exact e⟩
    · exact ⟨ρ.length, by simp⟩
/-- a new cell -/
theorem SR.ext_alloc (s : SR L ρ S H) {p : Addr} {o : HO} (hp : H p = none) : Ext ρ H (ρ ++ [some p]) (upd H p o) := by
  refine ⟨by simp, fun i hi => .inl (List.getElem?_append_left hi), fun b u e n => ⟨by rw [upd_ne (ne_of_none e hp)]; exact e, fun l => ?_⟩⟩
  rcases live_snoc.mp l with l | rfl
  · exact n l
  · rw [hp] at e; cases e
theorem SR.alloc (s : SR L ρ S H) {p : Addr} {o : HO} {c : Cell} (hp : H p = none) (hc : CR L (ρ ++ [some p]) (upd H p o) c p) : SR L (ρ ++ [some p]) (S ++ [c]) (upd H p o) := by
  have np := s.notlive hp
  refine ⟨by simp [s.len], fun i j a e1 e2 => ?_, fun i c' e => ?_⟩
  · by_cases hi : i < ρ.length
    · rw [List.getElem?_append_left hi] at e1
      by_cases hj : j < ρ.length
      · rw [List.getElem?_append_left hj] at e2
        exact s.inj i j a e1 e2
      · rw [List.getElem?_append_right (by omega)] at e2
        have hj0 : j - ρ.length = 0 := by
          cases q : j - ρ.length with
          | zero => rfl
          | succ k => rw [q] at e2; simp at e2
        rw [hj0] at e2
        simp at e2
        exact absurd ⟨i, by rw [e1, e2]⟩ np
    · rw [List.getElem?_append_right (by omega)] at e1
      have hi0 : i - ρ.length = 0 := by
        cases q : i - ρ.length with
        | zero => rfl
        | succ k => rw [q] at e1; simp at e1
      rw [hi0] at e1
      simp at e1
      by_cases hj : j < ρ.length
      · rw [List.getElem?_append_left hj] at e2
        exact absurd ⟨j, by rw [e2, e1]⟩ np
      · rw [List.getElem?_append_right (by omega)] at e2
        have hj0 : j - ρ.length = 0 := by
          cases q : j - ρ.length with
          | zero => rfl
          | succ k => rw [q] at e2; simp at e2
        omega
  · by_cases hi : i < S.length
    · rw [List.getElem?_append_left hi] at e
      have hi' : i < ρ.length := by rw [s.len]; exact hi
      rw [List.getElem?_append_left hi']
      rcases s.cell i c' e with h | ⟨a, q, r⟩
      · exact .inl h
      · refine .inr ⟨a, q, r.mono (s.ext_alloc hp) ?_⟩
        obtain ⟨u, z⟩ := r.some
        rw [upd_ne (ne_of_none z hp)]
    · rw [List.getElem?_append_right (by omega)] at e
      have hi0 : i - S.length = 0 := by
        cases q : i - S.length with
        | zero => rfl
        | succ k => rw [q] at e; simp at e
      rw [hi0] at e
      simp at e
      subst e
      refine .inr ⟨p, ?_, hc⟩
      have : i = ρ.length := by have := s.len; omega
      rw [this]
      simp
/-- a cell is written -/
theorem SR.ext_write (s : SR L ρ S H) {n : Nat} {a : Addr} {o : HO} (hn : ρ[n]? = some (some a)) : Ext ρ H ρ (upd H a o) :=
  ⟨Nat.le_refl _, fun _ _ => .inl rfl, fun b u e nl => ⟨by rw [upd_ne (fun z => nl (by rw [z]; exact ⟨n, hn⟩))]; exact e, nl⟩⟩
theorem SR.write (s : SR L ρ S H) {n : Nat} {a : Addr} {o : HO} {c : Cell} (hn : ρ[n]? = some (some a)) (hc : CR L ρ (upd H a o) c a) : SR L ρ (S.set n c) (upd H a o) := by
  refine ⟨by simp [s.len], s.inj, fun i c' e => ?_⟩
  by_cases hi : i = n
  · subst hi
    have hl : i < S.length := by rw [← s.len]; exact (List.getElem?_eq_some_iff.mp hn).1
    rw [List.getElem?_set_self hl] at e
    cases e
    exact .inr ⟨a, hn, hc⟩
  · rw [List.getElem?_set_ne (Ne.symm hi)] at e
    rcases s.cell i c' e with h | ⟨b, q, r⟩
    · exact .inl h
    · refine .inr ⟨b, q, r.mono (s.ext_write hn) ?_⟩
      rw [upd_ne]
      intro z
      exact hi (s.inj i n a (by rw [q, z]) hn)
theorem live_set {n : Nat} {a : Addr} (h : live (ρ.set n none) a) : live ρ a := by
  obtain ⟨i, e⟩ := h
  by_cases hi : i = n
  · subst hi
    by_cases hl : i < ρ.length
    · rw [List.getElem?_set_self hl] at e; cases e
    · rw [List.getElem?_eq_none (by simpa using hl)] at e; cases e
  · rw [List.getElem?_set_ne (Ne.symm hi)] at e
    exact ⟨i, e⟩
/-- a cell is given up -/
theorem SR.ext_freeze (s : SR L ρ S H) {n : Nat} : Ext ρ H (ρ.set n none) H := by
  refine ⟨by simp, fun i hi => ?_, fun b u e nl => ⟨e, fun l => nl (live_set l)⟩⟩
  by_cases hin : i = n
  · subst hin
    exact .inr (List.getElem?_set_self hi)
  · exact .inl (List.getElem?_set_ne (Ne.symm hin))
theorem SR.freeze (s : SR L ρ S H) {n : Nat} (hn : n < S.length) : SR L (ρ.set n none) (S.set n .dead) H := by
  refine ⟨by simp [s.len], fun i j a e1 e2 => ?_, fun i c e => ?_⟩
  · have h1 : i ≠ n := fun z => by
      subst z
      rw [List.getElem?_set_self (by rw [s.len]; exact hn)] at e1; cases e1
    have h2 : j ≠ n := fun z => by
      subst z
      rw [List.getElem?_set_self (by rw [s.len]; exact hn)] at e2; cases e2
    rw [List.getElem?_set_ne (Ne.symm h1)] at e1
    rw [List.getElem?_set_ne (Ne.symm h2)] at e2
    exact s.inj i j a e1 e2
  · by_cases hi : i = n
    · subst hi
      rw [List.getElem?_set_self hn] at e
      cases e
      exact .inl ⟨rfl, List.getElem?_set_self (by rw [s.len]; exact hn)⟩
    · rw [List.getElem?_set_ne (Ne.symm hi)] at e
      rw [List.getElem?_set_ne (Ne.symm hi)]
      rcases s.cell i c e with h | ⟨a, q, r⟩
      · exact .inl h
      · exact .inr ⟨a, q, r.mono s.ext_freeze rfl⟩
theorem SR.at (s : SR L ρ S H) {n : Nat} {c : Cell} {v : V} (hv : RD L ρ H (.ref n) v) (hc : S[n]? = some c) (hd : c ≠ .dead) : ∃ a, v = .ref a ∧ ρ[n]? = some (some a) ∧ CR L ρ H c a := by
  simp only [RD] at hv
  obtain ⟨a, e, h⟩ := hv
  rcases s.cell n c hc with ⟨q, _⟩ | ⟨b, q, r⟩
  · exact absurd q hd
  · rcases h with h | h
    · rw [q] at h
      cases h
      exact ⟨_, e, q, r⟩
    · rw [q] at h; cases h
end
structure ER (L : Lk) (ρ : Rho) (H : Hp) (η : Env) (σ : L2.St) : Prop where
  len : η.length = σ.length
  at_ : ∀ (i : Nat) (d : D), η[i]? = some (some d) → ∃ v, σ[i]? = some (some v) ∧ RD L ρ H d v
theorem ER.mono {L : Lk} {ρ ρ' : Rho} {H H' : Hp} {η : Env} {σ : L2.St} (x : Ext ρ H ρ' H') (e : ER L ρ H η σ) : ER L ρ' H' η σ :=
  ⟨e.len, fun i d h => let ⟨v, h1, h2⟩ := e.at_ i d h; ⟨v, h1, RD.mono x d v h2⟩⟩
theorem ER.set {L : Lk} {ρ : Rho} {H : Hp} {η : Env} {σ : L2.St} {d : D} {v : V} (e : ER L ρ H η σ) (r : RD L ρ H d v) (i : Nat) : ER L ρ H (η.set i (some d)) (σ.set i (some v)) := by
  refine ⟨by simp [e.len], fun j x h => ?_⟩
  by_cases hj : j = i
  · subst hj
    have hl : j < η.length := by
      have := (List.getElem?_eq_some_iff.mp h).1
      simpa using this
    rw [List.getElem?_set_self hl] at h
    cases h
    exact ⟨v, List.getElem?_set_self (by rw [← e.len]; exact hl), r⟩
  · rw [List.getElem?_set_ne (Ne.symm hj)] at h
    rw [List.getElem?_set_ne (Ne.symm hj)]
    exact e.at_ j x h
theorem ER.clear {L : Lk} {ρ : Rho} {H : Hp} {η : Env} {σ : L2.St} (e : ER L ρ H η σ) (i : Nat) (o : Option V) : ER L ρ H (η.set i none) (σ.set i o) := by
  refine ⟨by simp [e.len], fun j x h => ?_⟩
  by_cases hj : j = i
  · subst hj
    have hl : j < η.length := by
      have := (List.getElem?_eq_some_iff.mp h).1
      simpa using this
    rw [List.getElem?_set_self hl] at h
    cases h
  · rw [List.getElem?_set_ne (Ne.symm hj)] at h
    rw [List.getElem?_set_ne (Ne.symm hj)]
    exact e.at_ j x h
theorem ER.wipe {L : Lk} {ρ : Rho} {H : Hp} {η : Env} {σ : L2.St} (e : ER L ρ H η σ) : ∀ vs : List Nat, ER L ρ H (wipeD η vs) (wipe σ vs)
  | [] => e
  | v :: vs => (ER.wipe e vs).clear v none
theorem ER.start {L : Lk} {ρ : Rho} {H : Hp} {ds : List D} {vs : List V} (r : RDs L ρ H ds vs) (N : List Str) (n : Nat) (hn : n = N.length) : ER L ρ H (ds.map some ++ List.replicate (n - ds.length) none) (L2.start N vs) := by
  have hl := r.length
  unfold L2.start
  refine ⟨by simp [hl, hn], fun i d h => ?_⟩
  by_cases hi : i < ds.length
  · rw [List.getElem?_append_left (by simpa using hi), List.getElem?_map] at h
    have e : ds[i]? = some ds[i] := List.getElem?_eq_getElem hi
    rw [e] at h
    simp at h
    obtain ⟨v, h1, h2⟩ := r.get e
    refine ⟨v, ?_, by rw [← h]; exact h2⟩
    rw [List.getElem?_append_left (by simp; omega), List.getElem?_map, h1]
    rfl
  · rw [List.getElem?_append_right (by simpa using hi)] at h
    rw [List.getElem?_replicate] at h
    split at h <;> cases h
end Mi
set_option Elab.async false
set_option linter.all false
namespace Mi
open PySem PySem.Spec PyProof.Rows L2
/-- an exception in the air: its class, its own dict -/
def RX (L : Lk) (ρ : Rho) (H : Hp) (e : D) (cls : Value) (dx : Addr) : Prop := ∃ c fs vs, e = .exc c fs ∧ cls = .ref (L.ca c) ∧ H dx = some (.xd ((L.fn c).zip vs)) ∧ ¬ live ρ dx ∧ vs.length = (L.fn c).length ∧ RDs L ρ H fs vs
def Post {α β : Type} (L : Lk) (W : WX) (σ : L2.St) (ρ : Rho) (H : Hp) (R : Rho → Hp → α → β → Prop) (Q : β → Hp → Prop) : Res α → Prop
  | .ok a S' => ∀ ρ' H' b, Ext ρ H ρ' H' → SR L ρ' S' H' → R ρ' H' a b → Q b H'
  | .exc e S' => ∀ ρ' H' cls dx, Ext ρ H ρ' H' → SR L ρ' S' H' → RX L ρ' H' e cls dx → W cls (some dx) σ H'
  | .bad => False
section
variable {α β γ δ : Type} {L : Lk} {W : WX} {σ : L2.St} {ρ ρ1 : Rho} {H H1 : Hp} {R : Rho → Hp → α → β → Prop} {R2 : Rho → Hp → γ → δ → Prop} {Q Q' : β → Hp → Prop} {Q2 : δ → Hp → Prop}
theorem Post.ext (x : Ext ρ H ρ1 H1) : ∀ {r : Res α}, Post L W σ ρ H R Q r → Post L W σ ρ1 H1 R Q r
  | .ok a S', h => fun ρ' H' b y => h ρ' H' b (x.trans y)
  | .exc e S', h => fun ρ' H' c dx y => h ρ' H' c dx (x.trans y)
  | .bad, h => h
theorem Post.imp (f : ∀ b H, Q b H → Q' b H) : ∀ {r : Res α}, Post L W σ ρ H R Q r → Post L W σ ρ H R Q' r
  | .ok a S', h => fun ρ' H' b x s r => f _ _ (h ρ' H' b x s r)
  | .exc e S', h => h
  | .bad, h => h
/-- behind a first part: the second is to be shown -/
def Then (L : Lk) (W : WX) (σ : L2.St) (ρ : Rho) (H : Hp) (R : Rho → Hp → α → β → Prop) (R2 : Rho → Hp → γ → δ → Prop) (Q2 : δ → Hp → Prop) (g : α → M γ) : β → Hp → Prop := fun b H1 =>
  ∃ ρ1 S1 a, Ext ρ H ρ1 H1 ∧ SR L ρ1 S1 H1 ∧ R ρ1 H1 a b ∧ Post L W σ ρ1 H1 R2 Q2 (g a S1)
theorem Post.bind {m : M α} {g : α → M γ} {S : Store} (h : Post L W σ ρ H R2 Q2 ((m >>= g) S)) : Post L W σ ρ H R (Then L W σ ρ H R R2 Q2 g) (m S) := by
  have h' : Post L W σ ρ H R2 Q2 (match m S with
    | .ok a S' => g a S'
    | .exc e S' => .exc e S'
    | .bad => .bad) := h
  cases q : m S with
  | ok a S1 =>
    rw [q] at h'
    exact fun ρ1 H1 b x s r => ⟨ρ1, S1, a, x, s, r, Post.ext x h'⟩
  | exc e S1 =>
    rw [q] at h'
    exact h'
  | bad =>
    rw [q] at h'
    exact h'
end
/-- the reading of a part of a program that Mini runs as f -/
def tM {α β : Type} (L : Lk) (W : WX) (R : Rho → Hp → α → β → Prop) (f : Env → M α) : L2.St → Hp → (β → Hp → Prop) → Prop := fun σ H Q =>
  ∃ ρ S η, SR L ρ S H ∧ ER L ρ H η σ ∧ Post L W σ ρ H R Q (f η S)
abbrev tE (L : Lk) (W : WX) (f : Env → M D) : TE := tM L W (RD L) f
abbrev tA (L : Lk) (W : WX) (f : Env → M (List D)) : TA := tM L W (RDs L) f
def RB : Rho → Hp → Bool → Bool → Prop := fun _ _ a b => a = b
abbrev tT (L : Lk) (W : WX) (f : Env → M Bool) : TT := tM L W RB f
theorem _root_.L2.PE.imp {X : Cx} {e : Expr} {t t' : TE} (h : PE X e t) (f : ∀ σ H Q, t' σ H Q → t σ H Q) : PE X e t' := ⟨fun pins s σ H Q I w => h.run pins s σ H Q I (f σ H Q w)⟩
theorem _root_.L2.PT.imp {X : Cx} {e : Expr} {t t' : TT} (h : PT X e t) (f : ∀ σ H Q, t' σ H Q → t σ H Q) : PT X e t' := ⟨fun pins s σ H Q I w => h.run pins s σ H Q I (f σ H Q w)⟩
theorem _root_.L2.PW.imp {X : Cx} {e : Expr} {t t' : TT} (h : PW X e t) (f : ∀ σ H Q, t' σ H Q → t σ H Q) : PW X e t' := ⟨fun wh pins s σ H Q I w => h.run wh pins s σ H Q I (f σ H Q w)⟩
theorem _root_.L2.PA.imp {X : Cx} {es : List Expr} {t t' : TA} (h : PA X es t) (f : ∀ σ H Q, t' σ H Q → t σ H Q) : PA X es t' := ⟨fun pos pins s σ H Q I w => h.run pos pins s σ H Q I (f σ H Q w)⟩
section
variable {α β γ δ : Type} {L : Lk} {W : WX} {σ : L2.St} {ρ ρ1 : Rho} {H H1 : Hp} {R : Rho → Hp → α → β → Prop} {R2 : Rho → Hp → γ → δ → Prop} {Q : β → Hp → Prop} {Q2 : δ → Hp → Prop} {S : Store} {η : Env}
/-- the first part's reading out of the whole's -/
theorem first {f : Env → M α} {g : α → M γ} (sr : SR L ρ S H) (er : ER L ρ H η σ) (po : Post L W σ ρ H R2 Q2 ((f η >>= g) S))
    (k : ∀ b H1, Then L W σ ρ H R R2 Q2 g b H1 → Q b H1) : tM L W R f σ H Q := ⟨ρ, S, η, sr, er, (Post.bind po).imp k⟩
/-- an operator that leaves the store as it is -/
theorem Post.pur {f : Store → Option D} {Q : V → Hp → Prop} (h : Post L W σ ρ H (RD L) Q (pur f S)) : ∃ d, f S = some d ∧ ∀ ρ' H' v, Ext ρ H ρ' H' → SR L ρ' S H' → RD L ρ' H' d v → Q v H' := by
  unfold Mi.pur at h
  cases q : f S with
  | none => simp only [q] at h; exact h.elim
  | some d => simp only [q] at h; exact ⟨d, rfl, h⟩
theorem Post.eff {f : Store → Option (D × Store)} {Q : V → Hp → Prop} (h : Post L W σ ρ H (RD L) Q (eff f S)) : ∃ d S', f S = some (d, S') ∧ ∀ ρ' H' v, Ext ρ H ρ' H' → SR L ρ' S' H' → RD L ρ' H' d v → Q v H' := by
  unfold Mi.eff at h
  cases q : f S with
  | none => simp only [q] at h; exact h.elim
  | some d =>
    obtain ⟨d, S'⟩ := d
    simp only [q] at h
    exact ⟨d, S', rfl, h⟩
theorem Post.grd {b : Bool} {g : Unit → M γ} (h : Post L W σ ρ H R2 Q2 ((Mi.grd b >>= g) S)) : b = true ∧ Post L W σ ρ H R2 Q2 (g () S) := by
  cases b with
  | true => exact ⟨rfl, h⟩
  | false => exact (show False from h).elim
theorem Post.grdS {f : Store → Bool} {g : Unit → M γ} (h : Post L W σ ρ H R2 Q2 ((Mi.grdS f >>= g) S)) : f S = true ∧ Post L W σ ρ H R2 Q2 (g () S) := by
  cases q : f S with
  | true =>
    have e : (Mi.grdS f >>= g) S = g () S := by
      show (M.bind (Mi.grdS f) g) S = _
      unfold M.bind Mi.grdS
      simp only [q, if_true]
    rw [e] at h
    exact ⟨rfl, h⟩
  | false =>
    have e : (Mi.grdS f >>= g) S = .bad := by
      show (M.bind (Mi.grdS f) g) S = _
      unfold M.bind Mi.grdS
      simp only [q, Bool.false_eq_true, if_false]
    rw [e] at h
    exact h.elim
theorem Post.opt {o : Option α} {g : α → M γ} (h : Post L W σ ρ H R2 Q2 ((Mi.opt o >>= g) S)) : ∃ a, o = some a ∧ Post L W σ ρ H R2 Q2 (g a S) := by
  cases o with
  | some a => exact ⟨a, rfl, h⟩
  | none => exact (show False from h).elim
theorem Post.truth {d : D} {g : Bool → M γ} (h : Post L W σ ρ H R2 Q2 ((Mi.truth d >>= g) S)) : ∃ b, d = .bool b ∧ Post L W σ ρ H R2 Q2 (g b S) := by
  cases d with
  | bool b => exact ⟨b, rfl, h⟩
  | _ => exact (show False from h).elim
theorem Post.pure {a : α} (h : Post L W σ ρ H R Q ((Pure.pure a : M α) S)) : ∀ ρ' H' b, Ext ρ H ρ' H' → SR L ρ' S H' → R ρ' H' a b → Q b H' := h
end
@[simp] theorem RD_none {L : Lk} {ρ : Rho} {H : Hp} {v : V} : RD L ρ H .none v ↔ v = .non := by simp only [RD]
@[simp] theorem RD_bool {L : Lk} {ρ : Rho} {H : Hp} {v : V} {b : Bool} : RD L ρ H (.bool b) v ↔ v = .bl b := by simp only [RD]
@[simp] theorem RD_int {L : Lk} {ρ : Rho} {H : Hp} {v : V} {i : Int} : RD L ρ H (.int i) v ↔ v = .int i := by simp only [RD]
@[simp] theorem RD_str {L : Lk} {ρ : Rho} {H : Hp} {v : V} {i : Str} : RD L ρ H (.str i) v ↔ v = .str i := by simp only [RD]
@[simp] theorem RD_cls {L : Lk} {ρ : Rho} {H : Hp} {v : V} {c : Nat} : RD L ρ H (.cls c) v ↔ v = .ref (L.ca c) := by simp only [RD]
section
variable {X : Cx} {L : Lk} {W : WX} {P : Prog} {Φ : Call} {pos : Pos} {a b : Expr} {ea eb : E} {es : List E} {xs : List Expr}
theorem pm_var {i : Nat} {x : Str} (hN : X.N[i]? = some x) (hv : Vis X.env.scope x) (hd : (x == ("__debug__" : Str)) = false) (hcd : (x == ("__classdict__" : Str)) = false) : PE X (.Name x pos) (tE L W (ev P Φ (.v i))) := by
  refine (pe_var hN hv hd hcd).imp fun σ H Q ⟨ρ, S, η, sr, er, po⟩ => ?_
  unfold ev at po
  cases q : η[i]? with
  | none => simp only [q] at po; exact po.elim
  | some o =>
    cases o with
    | none => simp only [q] at po; exact po.elim
    | some d =>
      simp only [q] at po
      obtain ⟨v, h1, h2⟩ := er.at_ i d q
      exact ⟨v, h1, po ρ H v (.refl ρ H) sr h2⟩
theorem pm_c {e : Expr} {d : D} {v : V} (h : PE X e (tC v)) (hd : ∀ ρ H, RD L ρ H d v) : PE X e (tE L W (ev P Φ (.c d))) := by
  refine h.imp fun σ H Q ⟨ρ, S, η, sr, er, po⟩ => ?_
  unfold ev at po
  exact po ρ H v (.refl ρ H) sr (hd ρ H)
theorem pm_g {e : Expr} {n : Nat} {d : D} {v : V} (h : PE X e (tC v)) (hn : P.con n = some d) (hd : ∀ ρ H, RD L ρ H d v) : PE X e (tE L W (ev P Φ (.g n))) := by
  refine h.imp fun σ H Q ⟨ρ, S, η, sr, er, po⟩ => ?_
  unfold ev at po
  rw [hn] at po
  exact po ρ H v (.refl ρ H) sr (hd ρ H)
theorem pm_nil : PA X [] (tA L W (evs P Φ [])) := by
  refine pa_nil.imp fun σ H Q ⟨ρ, S, η, sr, er, po⟩ => ?_
  unfold evs at po
  exact po ρ H [] (.refl ρ H) sr .nil
theorem pm_cons (ha : PE X a (tE L W (ev P Φ ea))) (hr : PA X xs (tA L W (evs P Φ es))) (hs : starEach (a :: xs) X.env = (false, eval a X.env) :: starEach xs X.env) (hst : ∀ e, ea ≠ .st e) : PA X (a :: xs) (tA L W (evs P Φ (ea :: es))) := by
  refine (pa_cons ha hr hs).imp fun σ H Q ⟨ρ, S, η, sr, er, po⟩ => ?_
  have e1 : evs P Φ (ea :: es) η = (do
      let x ← ev P Φ ea η
      let ys ← evs P Φ es η
      pure (x :: ys)) := by
    cases ea <;> first | (exact absurd rfl (hst _)) | rfl
  rw [e1] at po
  refine first sr er po fun x H1 ⟨ρ1, S1, d, x1, s1, r1, p1⟩ => ?_
  refine first s1 (er.mono x1) p1 fun ys H2 ⟨ρ2, S2, ds, x2, s2, r2, p2⟩ => ?_
  exact p2 ρ2 H2 _ (.refl _ _) s2 (RDs.cons (RD.mono x2 _ _ r1) r2)
theorem upd_tup {ρ : Rho} {S : Store} {H : Hp} {p : Addr} {xs : List D} {vs : List V} (s : SR L ρ S H) (hp : H p = none) (r : RDs L ρ H xs vs) : RD L ρ (upd H p (.tup vs)) (.tup xs) (.ref p) := by
  simp only [RD]
  exact ⟨p, vs, rfl, ⟨upd_same, s.notlive hp⟩, r.mono (s.ext_new hp)⟩
theorem upd_list {ρ : Rho} {S : Store} {H : Hp} {p : Addr} {xs : List D} {vs : List V} (s : SR L ρ S H) (hp : H p = none) (r : RDs L ρ H xs vs) : RD L ρ (upd H p (.lst vs)) (.list xs) (.ref p) := by
  simp only [RD]
  exact ⟨p, vs, rfl, .inl ⟨.inl upd_same, s.notlive hp⟩, r.mono (s.ext_new hp)⟩
theorem pm_tup {k : Nat} (h : PA X xs (tA L W (evs P Φ es))) : PE X (.Tuple xs k pos) (tE L W (ev P Φ (.tup es))) := by
  refine (pe_tup h).imp fun σ H Q ⟨ρ, S, η, sr, er, po⟩ => ?_
  unfold ev at po
  refine first sr er po fun vs H1 ⟨ρ1, S1, ds, x1, s1, r1, p1⟩ => ?_
  obtain ⟨hz, p1⟩ := Post.grd p1
  refine ⟨by have := r1.length; have := of_decide_eq_true hz; unfold line at this; omega, fun p hp => ?_⟩
  exact p1 ρ1 _ _ (s1.ext_new hp) (s1.new hp) (upd_tup s1 hp r1)
theorem pm_list (h : PA X xs (tA L W (evs P Φ es))) : PE X (.List xs pos) (tE L W (ev P Φ (.list es))) := by
  refine (pe_lst h).imp fun σ H Q ⟨ρ, S, η, sr, er, po⟩ => ?_
  unfold ev at po
  refine first sr er po fun vs H1 ⟨ρ1, S1, ds, x1, s1, r1, p1⟩ => ?_
  obtain ⟨hz, p1⟩ := Post.grd p1
  refine ⟨by have := r1.length; have := of_decide_eq_true hz; unfold line at this; omega, fun p hp => ?_⟩
  exact p1 ρ1 _ _ (s1.ext_new hp) (s1.new hp) (upd_list s1 hp r1)
/-- a new cell of the store -/
theorem Post.alloc {σ : L2.St} {ρ : Rho} {S : Store} {H : Hp} {c : Cell} {Q : V → Hp → Prop} {p : Addr} {o : HO} (h : Post L W σ ρ H (RD L) Q ((Mi.alloc c >>= fun n => (Pure.pure (.ref n) : M D)) S)) (s : SR L ρ S H) (hp : H p = none)
    (hc : CR L (ρ ++ [some p]) (upd H p o) c p) : Q (.ref p) (upd H p o) := by
  have h' : Post L W σ ρ H (RD L) Q (.ok (.ref S.length) (S ++ [c])) := h
  refine h' (ρ ++ [some p]) _ _ (s.ext_alloc hp) (s.alloc hp hc) ?_
  simp only [RD]
  exact ⟨p, rfl, .inl (by rw [← s.len]; simp)⟩
theorem pm_mlist (h : PA X xs (tA L W (evs P Φ es))) : PE X (.List xs pos) (tE L W (ev P Φ (.mlist es))) := by
  refine (pe_lst h).imp fun σ H Q ⟨ρ, S, η, sr, er, po⟩ => ?_
  unfold ev at po
  refine first sr er po fun vs H1 ⟨ρ1, S1, ds, x1, s1, r1, p1⟩ => ?_
  obtain ⟨hz, p1⟩ := Post.grd p1
  refine ⟨by have := r1.length; have := of_decide_eq_true hz; unfold line at this; omega, fun p hp => ?_⟩
  exact p1.alloc s1 hp ⟨vs, upd_same, r1.mono (s1.ext_alloc hp)⟩
theorem pm_mdictT : PE X (.Dict [] [] pos) (tE L W (ev P Φ .mdictT)) := by
  refine pe_dnewT.imp fun σ H Q ⟨ρ, S, η, sr, er, po⟩ p hp => ?_
  unfold ev at po
  exact po.alloc sr hp ⟨[], ⟨by simpa using upd_same, by simp⟩, by simpa using RDs.nil⟩
end
/-- what an operator of two values is to give -/
def rPur (L : Lk) (f : Store → D → D → Option D) : R2 := fun x y H Q => ∃ ρ S a b d, SR L ρ S H ∧ RD L ρ H a x ∧ RD L ρ H b y ∧ f S a b = some d ∧ ∀ ρ' H' v, Ext ρ H ρ' H' → SR L ρ' S H' → RD L ρ' H' d v → Q v H'
section
variable {X : Cx} {L : Lk} {W : WX} {P : Prog} {Φ : Call} {pos : Pos} {a b : Expr} {ea eb : E} {es : List E} {xs : List Expr}
theorem two {fa fb : Env → M D} {f : Store → D → D → Option D} {σ : L2.St} {ρ : Rho} {H : Hp} {S : Store} {η : Env} {Q : VK} (sr : SR L ρ S H) (er : ER L ρ H η σ)
    (po : Post L W σ ρ H (RD L) Q ((fa η >>= fun x => fb η >>= fun y => pur fun S => f S x y) S)) : tE L W fa σ H fun x H1 => tE L W fb σ H1 fun y H2 => rPur L f x y H2 Q := by
  refine first sr er po fun x H1 ⟨ρ1, S1, d, x1, s1, r1, p1⟩ => ?_
  refine first s1 (er.mono x1) p1 fun y H2 ⟨ρ2, S2, d2, x2, s2, r2, p2⟩ => ?_
  obtain ⟨d3, e3, k⟩ := Post.pur p2
  exact ⟨ρ2, S2, d, d2, d3, s2, RD.mono x2 _ _ r1, r2, e3, k⟩
theorem pm_bin {o : BOp} {op : Operator} (ho : OpR X (binaryOp op) (rPur L (binop o))) (ha : PE X a (tE L W (ev P Φ ea))) (hb : PE X b (tE L W (ev P Φ eb))) : PE X (.BinOp a op b pos) (tE L W (ev P Φ (.bin o ea eb))) := by
  refine (pe_op ho ha hb).imp fun σ H Q ⟨ρ, S, η, sr, er, po⟩ => ?_
  unfold ev at po
  exact two sr er po
theorem pm_cmp {o : COp} {op : CmpOp} (ho : OpR X (compareOp op) (rPur L (cmpop o))) (ha : PE X a (tE L W (ev P Φ ea))) (hb : PE X b (tE L W (ev P Φ eb))) (hm : behindInMarks op b = false) : PE X (.Compare a [op] [b] pos) (tE L W (ev P Φ (.cmp o ea eb))) := by
  refine (pe_cmpR ho ha hb hm).imp fun σ H Q ⟨ρ, S, η, sr, er, po⟩ => ?_
  unfold ev at po
  exact two sr er po
theorem pm_ix (ho : IxR X (rPur L ixop)) (ha : PE X a (tE L W (ev P Φ ea))) (hb : PE X b (tE L W (ev P Φ eb))) (hs : PlainIx b) : PE X (.Subscript a b pos) (tE L W (ev P Φ (.ix ea eb))) := by
  refine (pe_ix ho ha hb hs).imp fun σ H Q ⟨ρ, S, η, sr, er, po⟩ => ?_
  unfold ev at po
  exact two sr er po
end
end Mi
set_option Elab.async false
set_option linter.all false
namespace Mi
open PySem PySem.Spec PyProof.Rows L2
theorem M.assoc {α β γ : Type} (m : M α) (f : α → M β) (g : β → M γ) : ((m >>= f) >>= g) = (m >>= fun x => f x >>= g) := by
  funext S
  show (match (match m S with
    | .ok a S' => f a S'
    | .exc e S' => .exc e S'
    | .bad => .bad : Res β) with
    | .ok a S' => g a S'
    | .exc e S' => .exc e S'
    | .bad => .bad : Res γ) = (match m S with
    | .ok a S' => (f a >>= g) S'
    | .exc e S' => .exc e S'
    | .bad => .bad)
  cases m S <;> rfl
theorem M.pure_bind {α β : Type} (a : α) (f : α → M β) : ((pure a : M α) >>= f) = f a := rfl
/-- a test -/
noncomputable def evT (P : Prog) (Φ : Call) (e : E) (η : Env) : M Bool := do
  let x ← ev P Φ e η
  truth x
section
variable {X : Cx} {L : Lk} {W : WX} {P : Prog} {Φ : Call} {pos : Pos} {a b c : Expr} {ea eb ec : E} {es : List E} {xs : List Expr}
/-- what a test of a bool is to give -/
theorem test_of {f : Env → M D} {σ : L2.St} {H : Hp} {Q : Bool → Hp → Prop} (h : tT L W (fun η => do
    let x ← f η
    truth x) σ H Q) : tE L W f σ H fun x H1 => ∃ k, x = .bl k ∧ Q k H1 := by
  obtain ⟨ρ, S, η, sr, er, po⟩ := h
  refine first sr er po fun x H1 ⟨ρ1, S1, d, x1, s1, r1, p1⟩ => ?_
  cases d with
  | bool k =>
    simp only [RD_bool] at r1
    exact ⟨k, r1, p1 ρ1 H1 k (.refl _ _) s1 rfl⟩
  | _ => exact (show False from p1).elim
theorem pt_plain (h : PE X a (tE L W (ev P Φ ea))) (he : ∀ whole, isTrue a X.env whole = (do let v ← whole; standAt a.pos; holding [v] (truthy v))) : PT X a (tT L W (evT P Φ ea)) :=
  (pt_val h he).imp fun σ H Q h => test_of h
theorem pt_mcmp {o : COp} {op : CmpOp} (ho : OpR X (compareOp op) (rPur L (cmpop o))) (ha : PE X a (tE L W (ev P Φ ea))) (hb : PE X b (tE L W (ev P Φ eb))) (hm : behindInMarks op b = false) : PT X (.Compare a [op] [b] pos) (tT L W (evT P Φ (.cmp o ea eb))) := by
  refine (pt_cmpR ho ha hb hm).imp fun σ H Q h => ?_
  obtain ⟨ρ, S, η, sr, er, po⟩ := test_of h
  unfold ev at po
  exact two sr er po
theorem pm_not (ha : PE X a (tE L W (ev P Φ ea))) : PE X (.UnaryOp .Not a pos) (tE L W (ev P Φ (.not_ ea))) := by
  refine (pe_not ha).imp fun σ H Q ⟨ρ, S, η, sr, er, po⟩ => ?_
  unfold ev at po
  refine first sr er po fun x H1 ⟨ρ1, S1, d, x1, s1, r1, p1⟩ => ?_
  obtain ⟨k, rfl, p1⟩ := p1.truth
  simp only [RD_bool] at r1
  exact ⟨k, r1, p1 ρ1 H1 _ (.refl _ _) s1 (by simp)⟩
theorem pt_mnot (ha : PT X a (tT L W (evT P Φ ea))) : PT X (.UnaryOp .Not a pos) (tT L W (evT P Φ (.not_ ea))) := by
  refine (pt_not ha).imp fun σ H Q ⟨ρ, S, η, sr, er, po⟩ => ?_
  unfold evT at po
  unfold ev at po
  refine ⟨ρ, S, η, sr, er, ?_⟩
  have e : (do
      let x ← (do
        let x ← ev P Φ ea η
        let t ← truth x
        pure (D.bool (!t)) : M D)
      truth x : M Bool) = (evT P Φ ea η >>= fun t => pure (!t)) := by
    unfold evT
    rw [M.assoc, M.assoc]
    congr 1
    funext x
    rw [M.assoc]
    rfl
  rw [e] at po
  refine (Post.bind (R := RB) po).imp fun k H1 ⟨ρ1, S1, d, x1, s1, r1, p1⟩ => ?_
  cases r1
  exact p1 ρ1 H1 _ (.refl _ _) s1 rfl
theorem pm_ite (hc : PT X c (tT L W (evT P Φ ec))) (ha : PE X a (tE L W (ev P Φ ea))) (hb : PE X b (tE L W (ev P Φ eb))) : PE X (.IfExp c a b pos) (tE L W (ev P Φ (.ite ec ea eb))) := by
  refine (pe_ifExp hc ha hb).imp fun σ H Q ⟨ρ, S, η, sr, er, po⟩ => ?_
  unfold ev at po
  have e : (do
      let x ← ev P Φ ec η
      let t ← truth x
      if t then ev P Φ ea η else ev P Φ eb η : M D) = (evT P Φ ec η >>= fun t => if t then ev P Φ ea η else ev P Φ eb η) := by
    unfold evT
    rw [M.assoc]
  rw [e] at po
  refine first sr er po fun k H1 ⟨ρ1, S1, d, x1, s1, r1, p1⟩ => ?_
  cases r1
  cases k with
  | true =>
    rw [if_pos rfl]
    exact ⟨ρ1, S1, η, s1, er.mono x1, p1⟩
  | false =>
    rw [if_neg Bool.false_ne_true]
    exact ⟨ρ1, S1, η, s1, er.mono x1, p1⟩
theorem evAnd_cons (e e2 : E) (es : List E) (η : Env) : evAnd P Φ (e :: e2 :: es) η = (evT P Φ e η >>= fun t => if t then evAnd P Φ (e2 :: es) η else pure (.bool false)) := by
  unfold evT
  rw [M.assoc]
  rfl
theorem evOr_cons (e e2 : E) (es : List E) (η : Env) : evOr P Φ (e :: e2 :: es) η = (evT P Φ e η >>= fun t => if t then pure (.bool true) else evOr P Φ (e2 :: es) η) := by
  unfold evT
  rw [M.assoc]
  rfl
theorem pm_and1 (ha : PE X a (tE L W (ev P Φ ea))) : PE X (.BoolOp .And [a] pos) (tE L W (evAnd P Φ [ea])) := (pe_one ha).imp fun σ H Q h => h
theorem pm_or1 (ha : PE X a (tE L W (ev P Φ ea))) : PE X (.BoolOp .Or [a] pos) (tE L W (evOr P Φ [ea])) := (pe_one ha).imp fun σ H Q h => h
theorem pm_and {e2 : E} (ha : PE X a (tE L W (ev P Φ ea))) (hb : PE X (.BoolOp .And (b :: xs) pos) (tE L W (evAnd P Φ (e2 :: es)))) : PE X (.BoolOp .And (a :: b :: xs) pos) (tE L W (evAnd P Φ (ea :: e2 :: es))) := by
  refine (pe_and ha hb).imp fun σ H Q ⟨ρ, S, η, sr, er, po⟩ => ?_
  rw [evAnd_cons] at po
  unfold evT at po
  rw [M.assoc] at po
  refine first sr er po fun x H1 ⟨ρ1, S1, d, x1, s1, r1, p1⟩ => ?_
  obtain ⟨k, rfl, p1⟩ := p1.truth
  simp only [RD_bool] at r1
  refine ⟨k, r1, ?_⟩
  cases k with
  | true =>
    rw [if_pos rfl]
    exact ⟨ρ1, S1, η, s1, er.mono x1, p1⟩
  | false =>
    rw [if_neg Bool.false_ne_true]
    exact p1 ρ1 H1 _ (.refl _ _) s1 (by simp)
theorem pm_or {e2 : E} (ha : PE X a (tE L W (ev P Φ ea))) (hb : PE X (.BoolOp .Or (b :: xs) pos) (tE L W (evOr P Φ (e2 :: es)))) : PE X (.BoolOp .Or (a :: b :: xs) pos) (tE L W (evOr P Φ (ea :: e2 :: es))) := by
  refine (pe_or ha hb).imp fun σ H Q ⟨ρ, S, η, sr, er, po⟩ => ?_
  rw [evOr_cons] at po
  unfold evT at po
  rw [M.assoc] at po
  refine first sr er po fun x H1 ⟨ρ1, S1, d, x1, s1, r1, p1⟩ => ?_
  obtain ⟨k, rfl, p1⟩ := p1.truth
  simp only [RD_bool] at r1
  refine ⟨k, r1, ?_⟩
  cases k with
  | true =>
    rw [if_pos rfl]
    exact p1 ρ1 H1 _ (.refl _ _) s1 (by simp)
  | false =>
    rw [if_neg Bool.false_ne_true]
    exact ⟨ρ1, S1, η, s1, er.mono x1, p1⟩
theorem pw_mand1 (ha : PT X a (tT L W (evT P Φ ea))) : PW X (.BoolOp .And [a] pos) (tT L W (fun η => do
    let x ← evAnd P Φ [ea] η
    truth x)) := (pw_and1 ha).imp fun σ H Q h => h
theorem pw_mor1 (ha : PT X a (tT L W (evT P Φ ea))) : PW X (.BoolOp .Or [a] pos) (tT L W (fun η => do
    let x ← evOr P Φ [ea] η
    truth x)) := (pw_or1 ha).imp fun σ H Q h => h
theorem pw_mand {e2 : E} (ha : PT X a (tT L W (evT P Φ ea))) (hb : PW X (.BoolOp .And (b :: xs) pos) (tT L W (fun η => do
    let x ← evAnd P Φ (e2 :: es) η
    truth x))) : PW X (.BoolOp .And (a :: b :: xs) pos) (tT L W (fun η => do
    let x ← evAnd P Φ (ea :: e2 :: es) η
    truth x)) := by
  refine (pw_and ha hb).imp fun σ H Q ⟨ρ, S, η, sr, er, po⟩ => ?_
  simp only [evAnd_cons, M.assoc] at po
  refine first sr er po fun k H1 ⟨ρ1, S1, d, x1, s1, r1, p1⟩ => ?_
  cases r1
  cases k with
  | true =>
    rw [if_pos rfl]
    exact ⟨ρ1, S1, η, s1, er.mono x1, p1⟩
  | false =>
    rw [if_neg Bool.false_ne_true]
    exact p1 ρ1 H1 _ (.refl _ _) s1 rfl
theorem pw_mor {e2 : E} (ha : PT X a (tT L W (evT P Φ ea))) (hb : PW X (.BoolOp .Or (b :: xs) pos) (tT L W (fun η => do
    let x ← evOr P Φ (e2 :: es) η
    truth x))) : PW X (.BoolOp .Or (a :: b :: xs) pos) (tT L W (fun η => do
    let x ← evOr P Φ (ea :: e2 :: es) η
    truth x)) := by
  refine (pw_or ha hb).imp fun σ H Q ⟨ρ, S, η, sr, er, po⟩ => ?_
  simp only [evOr_cons, M.assoc] at po
  refine first sr er po fun k H1 ⟨ρ1, S1, d, x1, s1, r1, p1⟩ => ?_
  cases r1
  cases k with
  | true =>
    rw [if_pos rfl]
    exact p1 ρ1 H1 _ (.refl _ _) s1 rfl
  | false =>
    rw [if_neg Bool.false_ne_true]
    exact ⟨ρ1, S1, η, s1, er.mono x1, p1⟩
theorem Post.purB {α β : Type} {σ : L2.St} {ρ : Rho} {H : Hp} {S : Store} {R : Rho → Hp → α → β → Prop} {Q : β → Hp → Prop} {f : Store → Option D} {g : D → M α} {d : D} (h : Post L W σ ρ H R Q ((Mi.pur f >>= g) S)) (e : f S = some d) : Post L W σ ρ H R Q (g d S) := by
  have q : (Mi.pur f >>= g) S = g d S := by
    show (M.bind (Mi.pur f) g) S = _
    unfold M.bind Mi.pur
    simp only [e]
  rw [q] at h
  exact h
theorem chain_of {o o2 : COp} {σ : L2.St} {ρ : Rho} {H : Hp} {S : Store} {η : Env} {Q : VK} (sr : SR L ρ S H) (er : ER L ρ H η σ) (po : Post L W σ ρ H (RD L) Q (ev P Φ (.cmp2 o o2 ea eb ec) η S)) :
    tChain (rPur L (cmpop o)) (rPur L (cmpop o2)) (tE L W (ev P Φ ea)) (tE L W (ev P Φ eb)) (tE L W (ev P Φ ec)) σ H Q := by
  unfold ev at po
  refine first sr er po fun x H1 ⟨ρ1, S1, d, x1, s1, r1, p1⟩ => ?_
  refine first s1 (er.mono x1) p1 fun y H2 ⟨ρ2, S2, d2, x2, s2, r2, p2⟩ => ?_
  obtain ⟨d3, e3, k3⟩ := Post.pur (Post.bind (R := RD L) p2)
  refine ⟨ρ2, S2, d, d2, d3, s2, RD.mono x2 _ _ r1, r2, e3, fun ρ3 H3 z x3 s3 r3 => ?_⟩
  have e0 := k3 ρ3 H3 z x3 s3 r3
  have p3 := (Post.purB (f := fun S => cmpop o S d d2) p2 e3).ext x3
  obtain ⟨k, rfl, p4⟩ := p3.truth
  simp only [RD_bool] at r3
  refine ⟨k, r3, ?_⟩
  have er3 : ER L ρ3 H3 η σ := ((er.mono x1).mono x2).mono x3
  cases k with
  | true =>
    rw [if_pos rfl]
    refine first s3 er3 p4 fun w' H4 ⟨ρ4, S4, d4, x4, s4, r4, p5⟩ => ?_
    obtain ⟨d5, e5, k5⟩ := Post.pur p5
    exact ⟨ρ4, S4, d2, d4, d5, s4, RD.mono x4 _ _ (RD.mono x3 _ _ r2), r4, e5, k5⟩
  | false =>
    rw [if_neg Bool.false_ne_true]
    exact p4 ρ3 H3 _ (.refl _ _) s3 (by simp)
theorem pm_cmp2 {o o2 : COp} {op op2 : CmpOp} (ho : OpR X (compareOp op) (rPur L (cmpop o))) (ho2 : OpR X (compareOp op2) (rPur L (cmpop o2))) (ha : PE X a (tE L W (ev P Φ ea))) (hb : PE X b (tE L W (ev P Φ eb))) (hc : PE X c (tE L W (ev P Φ ec)))
    (hm : lastMarks [op, op2] [b, c] = false) : PE X (.Compare a [op, op2] [b, c] pos) (tE L W (ev P Φ (.cmp2 o o2 ea eb ec))) :=
  (pe_chain ho ho2 ha hb hc hm).imp fun σ H Q ⟨ρ, S, η, sr, er, po⟩ => chain_of sr er po
theorem pt_mcmp2 {o o2 : COp} {op op2 : CmpOp} (ho : OpR X (compareOp op) (rPur L (cmpop o))) (ho2 : OpR X (compareOp op2) (rPur L (cmpop o2))) (ha : PE X a (tE L W (ev P Φ ea))) (hb : PE X b (tE L W (ev P Φ eb))) (hc : PE X c (tE L W (ev P Φ ec)))
    (hm : lastMarks [op, op2] [b, c] = false) : PT X (.Compare a [op, op2] [b, c] pos) (tT L W (evT P Φ (.cmp2 o o2 ea eb ec))) := by
  refine (pt_chain ho ho2 ha hb hc hm).imp fun σ H Q h => ?_
  obtain ⟨ρ, S, η, sr, er, po⟩ := test_of h
  exact chain_of sr er po
theorem isN_of {σ : L2.St} {ρ : Rho} {H : Hp} {S : Store} {η : Env} {Q : VK} {k : Bool} (sr : SR L ρ S H) (er : ER L ρ H η σ) (po : Post L W σ ρ H (RD L) Q (ev P Φ (.isN k ea) η S)) :
    tE L W (ev P Φ ea) σ H fun x H1 => Q (.bl (decide (x = .non) == k)) H1 := by
  unfold ev at po
  refine first sr er po fun x H1 ⟨ρ1, S1, d, x1, s1, r1, p1⟩ => ?_
  have nn : ∀ {v : V}, (∃ a, v = .ref a) → decide (v = .non) = false := fun ⟨a, e⟩ => by rw [e]; rfl
  have fin : ∀ b : Bool, decide (x = .non) = b → (Post L W σ ρ1 H1 (RD L) Q (.ok (.bool (b == k)) S1)) → Q (.bl (decide (x = .non) == k)) H1 := fun b e p => by
    rw [e]
    exact p ρ1 H1 _ (.refl _ _) s1 (by simp)
  have kk : (!k) = (false == k) := by cases k <;> rfl
  cases d with
  | none =>
    simp only [RD_none] at r1
    refine fin true (by rw [r1]; rfl) ?_
    have : (true == k) = k := by cases k <;> rfl
    rw [this]
    exact p1
  | bool b =>
    simp only [RD_bool] at r1
    refine fin false (by rw [r1]; rfl) ?_
    rw [← kk]
    exact p1
  | int b =>
    simp only [RD_int] at r1
    refine fin false (by rw [r1]; rfl) ?_
    rw [← kk]
    exact p1
  | str b =>
    simp only [RD_str] at r1
    refine fin false (by rw [r1]; rfl) ?_
    rw [← kk]
    exact p1
  | tup b =>
    simp only [RD] at r1
    obtain ⟨a, vs, e, _⟩ := r1
    refine fin false (nn ⟨a, e⟩) ?_
    rw [← kk]
    exact p1
  | list b =>
    simp only [RD] at r1
    obtain ⟨a, vs, e, _⟩ := r1
    refine fin false (nn ⟨a, e⟩) ?_
    rw [← kk]
    exact p1
  | dict b c =>
    simp only [RD] at r1
    obtain ⟨a, vs, e, _⟩ := r1
    refine fin false (nn ⟨a, e⟩) ?_
    rw [← kk]
    exact p1
  | obj b c =>
    simp only [RD] at r1
    obtain ⟨a, dx, vs, e, _⟩ := r1
    refine fin false (nn ⟨a, e⟩) ?_
    rw [← kk]
    exact p1
  | exc b c =>
    simp only [RD] at r1
    obtain ⟨a, dx, vs, e, _⟩ := r1
    refine fin false (nn ⟨a, e⟩) ?_
    rw [← kk]
    exact p1
  | cls b =>
    simp only [RD] at r1
    refine fin false (nn ⟨_, r1⟩) ?_
    rw [← kk]
    exact p1
  | ref b =>
    simp only [RD] at r1
    obtain ⟨a, e, _⟩ := r1
    refine fin false (nn ⟨a, e⟩) ?_
    rw [← kk]
    exact p1
theorem pm_isN {j pos'} (ha : PE X a (tE L W (ev P Φ ea))) : PE X (.Compare a [.Is] [.Constant .none j pos'] pos) (tE L W (ev P Φ (.isN true ea))) :=
  (pe_cmp (pc_isN ha) rfl).imp fun σ H Q ⟨ρ, S, η, sr, er, po⟩ => by
    obtain ⟨ρ', S', η', s, e, p⟩ := isN_of sr er po
    exact ⟨ρ', S', η', s, e, p.imp fun b H h => by simpa using h⟩
theorem pm_notN {j pos'} (ha : PE X a (tE L W (ev P Φ ea))) : PE X (.Compare a [.IsNot] [.Constant .none j pos'] pos) (tE L W (ev P Φ (.isN false ea))) :=
  (pe_cmp (pc_notN ha) rfl).imp fun σ H Q ⟨ρ, S, η, sr, er, po⟩ => by
    obtain ⟨ρ', S', η', s, e, p⟩ := isN_of sr er po
    exact ⟨ρ', S', η', s, e, p.imp fun b H h => by simpa using h⟩
theorem pt_misN {j pos'} (ha : PE X a (tE L W (ev P Φ ea))) : PT X (.Compare a [.Is] [.Constant .none j pos'] pos) (tT L W (evT P Φ (.isN true ea))) :=
  (pt_cmp (pc_isN ha) rfl).imp fun σ H Q h => by
    obtain ⟨ρ, S, η, sr, er, po⟩ := test_of h
    obtain ⟨ρ', S', η', s, e, p⟩ := isN_of sr er po
    exact ⟨ρ', S', η', s, e, p.imp fun b H h => by simpa using h⟩
theorem pt_mnotN {j pos'} (ha : PE X a (tE L W (ev P Φ ea))) : PT X (.Compare a [.IsNot] [.Constant .none j pos'] pos) (tT L W (evT P Φ (.isN false ea))) :=
  (pt_cmp (pc_notN ha) rfl).imp fun σ H Q h => by
    obtain ⟨ρ, S, η, sr, er, po⟩ := test_of h
    obtain ⟨ρ', S', η', s, e, p⟩ := isN_of sr er po
    exact ⟨ρ', S', η', s, e, p.imp fun b H h => by simpa using h⟩
theorem isB_of {σ : L2.St} {ρ : Rho} {H : Hp} {S : Store} {η : Env} {Q : VK} {k c : Bool} (sr : SR L ρ S H) (er : ER L ρ H η σ) (po : Post L W σ ρ H (RD L) Q (ev P Φ (.isB k c ea) η S)) :
    tE L W (ev P Φ ea) σ H fun x H1 => ∃ z, x = .bl z ∧ Q (.bl ((c == z) == k)) H1 := by
  unfold ev at po
  refine first sr er po fun x H1 ⟨ρ1, S1, d, x1, s1, r1, p1⟩ => ?_
  cases d with
  | bool z =>
    simp only [RD_bool] at r1
    exact ⟨z, r1, p1 ρ1 H1 _ (.refl _ _) s1 (by simp)⟩
  | _ => exact (show False from p1).elim
theorem pm_isB {z : Bool} {j pos'} (ha : PE X a (tE L W (ev P Φ ea))) : PE X (.Compare a [.Is] [.Constant (.bool z) j pos'] pos) (tE L W (ev P Φ (.isB true z ea))) :=
  (pe_cmpR op_isBl ha pe_bl rfl).imp fun σ H Q ⟨ρ, S, η, sr, er, po⟩ => by
    obtain ⟨ρ', S', η', s, e, p⟩ := isB_of sr er po
    refine ⟨ρ', S', η', s, e, p.imp fun b H h => ?_⟩
    obtain ⟨c, hc, q⟩ := h
    refine ⟨c, z, hc, rfl, ?_⟩
    have : decide (c = z) = ((z == c) == true) := by cases c <;> cases z <;> rfl
    rw [this]
    exact q
theorem pm_notB {z : Bool} {j pos'} (ha : PE X a (tE L W (ev P Φ ea))) : PE X (.Compare a [.IsNot] [.Constant (.bool z) j pos'] pos) (tE L W (ev P Φ (.isB false z ea))) :=
  (pe_cmpR op_notBl ha pe_bl rfl).imp fun σ H Q ⟨ρ, S, η, sr, er, po⟩ => by
    obtain ⟨ρ', S', η', s, e, p⟩ := isB_of sr er po
    refine ⟨ρ', S', η', s, e, p.imp fun b H h => ?_⟩
    obtain ⟨c, hc, q⟩ := h
    refine ⟨c, z, hc, rfl, ?_⟩
    have : (!decide (c = z)) = ((z == c) == false) := by cases c <;> cases z <;> rfl
    rw [this]
    exact q
theorem pt_misB {z : Bool} {j pos'} (ha : PE X a (tE L W (ev P Φ ea))) : PT X (.Compare a [.Is] [.Constant (.bool z) j pos'] pos) (tT L W (evT P Φ (.isB true z ea))) :=
  (pt_cmpR op_isBl ha pe_bl rfl).imp fun σ H Q h => by
    obtain ⟨ρ, S, η, sr, er, po⟩ := test_of h
    obtain ⟨ρ', S', η', s, e, p⟩ := isB_of sr er po
    refine ⟨ρ', S', η', s, e, p.imp fun b H h => ?_⟩
    obtain ⟨c, hc, q⟩ := h
    refine ⟨c, z, hc, rfl, ?_⟩
    have : decide (c = z) = ((z == c) == true) := by cases c <;> cases z <;> rfl
    rw [this]
    exact q
theorem pt_mnotB {z : Bool} {j pos'} (ha : PE X a (tE L W (ev P Φ ea))) : PT X (.Compare a [.IsNot] [.Constant (.bool z) j pos'] pos) (tT L W (evT P Φ (.isB false z ea))) :=
  (pt_cmpR op_notBl ha pe_bl rfl).imp fun σ H Q h => by
    obtain ⟨ρ, S, η, sr, er, po⟩ := test_of h
    obtain ⟨ρ', S', η', s, e, p⟩ := isB_of sr er po
    refine ⟨ρ', S', η', s, e, p.imp fun b H h => ?_⟩
    obtain ⟨c, hc, q⟩ := h
    refine ⟨c, z, hc, rfl, ?_⟩
    have : (!decide (c = z)) = ((z == c) == false) := by cases c <;> cases z <;> rfl
    rw [this]
    exact q
theorem pm_neg (ha : PE X a (tE L W (ev P Φ ea))) : PE X (.UnaryOp .USub a pos) (tE L W (ev P Φ (.neg ea))) :=
  (pe_un un_neg ha).imp fun σ H Q ⟨ρ, S, η, sr, er, po⟩ => by
    unfold ev at po
    refine first sr er po fun x H1 ⟨ρ1, S1, d, x1, s1, r1, p1⟩ => ?_
    cases d with
    | int i =>
      simp only [RD_int] at r1
      exact ⟨i, r1, p1 ρ1 H1 _ (.refl _ _) s1 (by simp)⟩
    | _ => exact (show False from p1).elim
def rSlM (L : Lk) : V → Option Int → Option Int → Hp → VK → Prop := fun x lo hi H Q => ∃ ρ S a d, SR L ρ S H ∧ RD L ρ H a x ∧ slop S a lo hi = some d ∧ ∀ ρ' H' v, Ext ρ H ρ' H' → SR L ρ' S H' → RD L ρ' H' d v → Q v H'
/-- a part of a slice -/
noncomputable def evP (P : Prog) (Φ : Call) (e : E) (η : Env) : M (Option Int) := do
  let x ← ev P Φ e η
  opt (partE e x)
def RO : Rho → Hp → Option Int → Option Int → Prop := fun _ _ a b => a = b
abbrev tP (L : Lk) (W : WX) (f : Env → M (Option Int)) : TO := tM L W RO f
theorem _root_.L2.PO.imp {e : Option Expr} {t t' : TO} (h : PO X e t) (f : ∀ σ H Q, t' σ H Q → t σ H Q) : PO X e t' := ⟨fun pins s σ H Q I w => h.run pins s σ H Q I (f σ H Q w)⟩
theorem po_mnone : PO X none (tP L W (evP P Φ (.c .none))) := po_none.imp fun σ H Q ⟨ρ, S, η, sr, er, po⟩ => by
  unfold evP at po
  unfold ev at po
  exact po ρ H none (.refl _ _) sr rfl
theorem partE_of {e : E} {d : D} {o : Option Int} (he : e ≠ .c .none) (h : partE e d = some o) : ∃ i, d = .int i ∧ o = some i := by
  unfold partE at h
  split at h
  · exact absurd rfl he
  · simp only [Option.some.injEq] at h
    exact ⟨_, rfl, h.symm⟩
  · cases h
theorem po_msome (h : PE X a (tE L W (ev P Φ ea))) (he : ea ≠ .c .none) : PO X (some a) (tP L W (evP P Φ ea)) := by
  refine (po_some h).imp fun σ H Q ⟨ρ, S, η, sr, er, po⟩ => ?_
  unfold evP at po
  refine first sr er po fun x H1 ⟨ρ1, S1, d1, x1, s1, r1, p1⟩ => ?_
  replace p1 : Post L W σ ρ1 H1 RO Q (opt (partE ea d1) S1) := p1
  cases q : partE ea d1 with
  | none => rw [q] at p1; exact (show False from p1).elim
  | some o =>
    rw [q] at p1
    obtain ⟨i, rfl, rfl⟩ := partE_of he q
    simp only [RD_int] at r1
    exact ⟨i, r1, p1 ρ1 H1 (some i) (.refl _ _) s1 rfl⟩
theorem evsl {lo hi : E} {η : Env} : ev P Φ (.sl ea lo hi) η = (ev P Φ ea η >>= fun x => evP P Φ lo η >>= fun l => evP P Φ hi η >>= fun h => pur fun S => slop S x l h) := by
  unfold evP
  simp only [M.assoc]
  conv => lhs; unfold ev
theorem pm_sl {lo hi : Option Expr} {el eh : E} {p2 : Pos} (hr : SlR X (rSlM L)) (ha : PE X a (tE L W (ev P Φ ea))) (hl : PO X lo (tP L W (evP P Φ el))) (hh : PO X hi (tP L W (evP P Φ eh))) : PE X (.Subscript a (.Slice lo hi none p2) pos) (tE L W (ev P Φ (.sl ea el eh))) := by
  refine (pe_slice hr ha hl hh).imp fun σ H Q ⟨ρ, S, η, sr, er, po⟩ => ?_
  rw [evsl] at po
  refine first sr er po fun x H1 ⟨ρ1, S1, d1, x1, s1, r1, p1⟩ => ?_
  refine first s1 (er.mono x1) p1 fun l H2 ⟨ρ2, S2, l2, x2, s2, r2, p2⟩ => ?_
  refine first s2 ((er.mono x1).mono x2) p2 fun h H3 ⟨ρ3, S3, h3, x3, s3, r3, p3⟩ => ?_
  cases r2
  cases r3
  obtain ⟨d, e, k⟩ := Post.pur p3
  exact ⟨ρ3, S3, d1, d, s3, RD.mono x3 _ _ (RD.mono x2 _ _ r1), e, k⟩
end
end Mi
set_option Elab.async false
set_option linter.all false
set_option maxRecDepth 100000
set_option maxHeartbeats 4000000
namespace Mi
open PySem PySem.Spec PyProof.Rows L2
theorem tuple_mul0W (l : Addr) (n : Nat) (dd : Option Addr) (sl : Array (Option Value)) (x : Int) (u : Tok) (c0 : (decide (x < -(2 ^ 63)) || decide (x ≥ 2 ^ 63)) = false) :
    Meets (Builtin.«tuple.__mul__» ⟨[.ref l, .int x u], []⟩) (fun _ R s => s.heap.get? l = some { cls := .type "tuple", dict := dd, data := .seq #[] n, slots := sl } ∧
      R (.ok (.ret (Value.ref l))) s) :=
  .of_wp fun prog w A R s h => by
    obtain ⟨hp, g, d, tk, os⟩ := s
    obtain ⟨hl, h⟩ := h
    have f1 := AutoSeq1.idx_int
    wp_walk using wpAny_loadPart' hl
    repeat (first
      | (refine wpAny_ite_false (decide_eq_false (by rw [c0]; exact Bool.false_ne_true)) ?_; wp_walk using wpAny_loadPart' hl))
    exact ⟨_, rfl, h⟩
def rRep0 (K : PySem.W.Frag) : R2 := fun x y H Q => ∃ l k, x = .ref l ∧ y = .int k ∧ SqT K H l [] ∧ 2 ≤ k ∧ k ≤ 1000 ∧ Q (.ref l) H
theorem op_rep0 {X : Cx} : OpR X (binaryOp .Mult) (rRep0 X.K) := by
  intro pins s σ H x y v u Q I rx ry h
  obtain ⟨l, k, rfl, rfl, hT, h1, h2, q⟩ := h
  cases rx
  obtain ⟨t, rfl⟩ := ry
  obtain ⟨its, r, ⟨⟨cls, dd, data, sl⟩, ho, hc, n, hd⟩, hs⟩ := I.tuple hT
  simp only at hc hd
  subst hc hd
  cases r
  have c0 : (decide (k < -(2 ^ 63)) || decide (k ≥ 2 ^ 63)) = false := by
    rw [decide_eq_false (by omega), decide_eq_false (by omega)] <;> rfl
  exact wpAny_binaryOp_repeat_ref (T := "tuple") (U := "int") (by decide) ⟨_, ho, rfl⟩ (fun s' => typeIs_int s' k t) noFill_tuple_mul PySem.F.fills_int_mul PySem.F.slot_int_rmul repeat_tuple PySem.F.slot_int_index.lookup
    (call_meets PySem.F.slot_int_rmul (typeIs_int s k t) PySem.F.entry_int_rmul (PySem.F.args_int_rmul_2 _ _) (int_rmul_tuple k t l #[] n dd sl)
      ⟨ho, rfl, ⟨_, ho, rfl⟩, call_meets PySem.F.slot_tuple_mul ⟨_, ho, rfl⟩ PySem.F.entry_tuple_mul (PySem.F.args_tuple_mul_2 _ _) (tuple_mul0W l n dd sl k t c0) ⟨ho, ⟨.ref l, H, I, rfl, q⟩⟩⟩)
end Mi
set_option Elab.async false
set_option linter.all false
set_option maxHeartbeats 1000000
namespace Mi
open PySem PySem.Spec PyProof.Rows L2
section
variable {X : Cx} {L : Lk} {W : WX} {pins : List (Addr × Obj)} {σ : L2.St} {ρ : Rho} {H : Hp} {S : Store} {s : Shared}
/-- the very object of a list -/
theorem lstF_obj (hK : X.K = L.K) (I : Inv X pins σ H s) {a : Addr} {vs : List V} (h : LstF L ρ H a vs) : vs.length ≤ sizeLine ∧ ∃ (its : List Value) (n : Nat), Vals vs its ∧ s.heap.get? a = some { cls := .type "list", data := .seq its.toArray n } := by
  rcases h with ⟨h, _⟩ | ⟨its, n, h1, h2, h3⟩
  · obtain ⟨z, its, n, r, e⟩ := h.ok I.hok
    exact ⟨z, its, n, r, e⟩
  · exact ⟨by rw [h3.length]; exact h2, its, n, h3, I.kIn a _ (by rw [hK]; exact h1)⟩
/-- a list of the store, or a value -/
theorem listOf_obj (hK : X.K = L.K) (I : Inv X pins σ H s) (sr : SR L ρ S H) {d : D} {v : V} {xs : List D} (r : RD L ρ H d v) (h : listOf S d = some xs) :
    ∃ a vs, v = .ref a ∧ SqL L.K H a vs ∧ RDs L ρ H xs vs ∧ vs.length ≤ sizeLine ∧ ∃ (its : List Value) (n : Nat), Vals vs its ∧ s.heap.get? a = some { cls := .type "list", data := .seq its.toArray n } := by
  cases d with
  | list ys =>
    have e : ys = xs := by simpa [listOf, deref] using h
    subst e
    simp only [RD] at r
    obtain ⟨a, vs, e, hl, rs⟩ := r
    obtain ⟨z, o⟩ := lstF_obj hK I hl
    exact ⟨a, vs, e, hl.sq, rs, z, o⟩
  | ref n =>
    unfold listOf deref at h
    cases q : S[n]? with
    | none => simp [q] at h
    | some c =>
      cases c with
      | list ys =>
        have e : ys = xs := by simpa [q] using h
        subst e
        obtain ⟨a, e, hr, vs, ha, rs⟩ := sr.at r q (by simp)
        obtain ⟨z, its, n, rv, ho⟩ := I.hok a _ ha
        exact ⟨a, vs, e, SqL.of ha, rs, z, its, n, rv, ho⟩
      | _ => simp [q] at h
  | _ => simp [listOf, deref] at h
theorem seqOf_sq (hK : X.K = L.K) (I : Inv X pins σ H s) (sr : SR L ρ S H) {d : D} {v : V} {xs : List D} (r : RD L ρ H d v) (h : seqOf S d = some xs) :
    ∃ a vs, v = .ref a ∧ (SqL L.K H a vs ∨ SqT L.K H a vs) ∧ RDs L ρ H xs vs ∧ vs.length ≤ sizeLine := by
  cases d with
  | tup ys =>
    have e : ys = xs := by simpa [seqOf, deref] using h
    subst e
    simp only [RD] at r
    obtain ⟨a, vs, e, ht, rs⟩ := r
    obtain ⟨_, _, _, z⟩ := I.tuple (by rw [hK]; exact ht.sq)
    exact ⟨a, vs, e, .inr ht.sq, rs, z⟩
  | list ys =>
    obtain ⟨a, vs, e, q, rs, z, _⟩ := listOf_obj hK I sr r (show listOf S (.list ys) = some xs by simpa [seqOf, listOf, deref] using h)
    exact ⟨a, vs, e, .inl q, rs, z⟩
  | ref n =>
    have h' : listOf S (.ref n) = some xs := by
      unfold seqOf deref at h
      unfold listOf deref
      cases q : S[n]? with
      | none => simp [q] at h
      | some c => cases c <;> simp_all
    obtain ⟨a, vs, e, q, rs, z, _⟩ := listOf_obj hK I sr r h'
    exact ⟨a, vs, e, .inl q, rs, z⟩
  | _ => simp [seqOf, deref] at h
end
section
variable {X : Cx} {L : Lk}
theorem list_addO {prog : Program} {w : World} {A : Around} {E : Value → Shared → Prop} {s : Shared} {l b : Addr} {its its2 : List Value} {n n2 : Nat} {Q : Value → Shared → Prop} (e : s.heap.get? l = some { cls := .type "list", data := .seq its.toArray n }) (e2 : s.heap.get? b = some { cls := .type "list", data := .seq its2.toArray n2 })
    (hz : its.length + its2.length ≤ sizeLine) (h : Q (.ref s.heap.objs.size) { s with heap := s.heap.push { cls := .type "list", data := .seq (its ++ its2).toArray } }) : wpAny (model prog w) A (binaryOp .Add (.ref l) (.ref b)) Q E s := by
  have ea : its.toArray ++ its2.toArray = (its ++ its2).toArray := by simp
  exact PySem.P.add_list e e2 (by rw [ea]; exact h) (by simpa using hz)
theorem om_add (hK : X.K = L.K) : OpR X (binaryOp .Add) (rPur L (binop .add)) := by
  intro pins s σ H x y v u Q I rx ry h
  obtain ⟨ρ, S, a, b, d, sr, ra, rb, e, k⟩ := h
  have lists : ∀ xs ys, listOf S a = some xs → listOf S b = some ys → (if xs.length + ys.length ≤ line then some (D.list (xs ++ ys)) else none) = some d → wpAny (model X.prog X.w) X.A (binaryOp .Add v u) (EP X pins σ Q) X.xe s := by
    intro xs ys h1 h2 h3
    obtain ⟨a1, vs, rfl, q1, r1, z1, its, n, rv, ho⟩ := listOf_obj hK I sr ra h1
    obtain ⟨a2, ws, rfl, q2, r2, z2, its2, n2, rv2, ho2⟩ := listOf_obj hK I sr rb h2
    by_cases hz : xs.length + ys.length ≤ line
    · rw [if_pos hz] at h3
      cases h3
      cases rx
      cases ry
      have l1 := r1.length
      have l2 := r2.length
      have l3 := rv.length
      have l4 := rv2.length
      unfold line at hz
      refine list_addO ho ho2 (by omega) ?_
      have hp : H s.heap.objs.size = none := I.fresh
      exact ⟨.ref _, _, I.lnew (t' := s.toks) (rv.append rv2) (by rw [List.length_append]; omega), rfl, k ρ _ _ (sr.ext_new hp) (sr.new hp) (upd_list sr hp (r1.append r2))⟩
    · rw [if_neg hz] at h3
      cases h3
  have fall : ((listOf S a).bind fun xs => (listOf S b).bind fun ys => if xs.length + ys.length ≤ line then some (D.list (xs ++ ys)) else none) = some d → wpAny (model X.prog X.w) X.A (binaryOp .Add v u) (EP X pins σ Q) X.xe s := by
    intro h3
    cases q1 : listOf S a with
    | none => rw [q1] at h3; cases h3
    | some xs =>
      rw [q1] at h3
      cases q2 : listOf S b with
      | none => rw [q2] at h3; cases h3
      | some ys =>
        rw [q2] at h3
        exact lists xs ys q1 q2 h3
  unfold binop at e
  cases a with
  | int i =>
    cases b with
    | int j =>
      simp only [Option.some.injEq] at e
      subst e
      simp only [RD_int] at ra rb
      subst ra rb
      exact op_add pins s σ H _ _ v u Q I rx ry ⟨i, j, rfl, rfl, k ρ H _ (.refl _ _) sr (by simp)⟩
    | _ => exact fall e
  | str i =>
    cases b with
    | str j =>
      by_cases hz : i.length + j.length ≤ line
      · simp only [if_pos hz, Option.some.injEq] at e
        subst e
        simp only [RD_str] at ra rb
        subst ra rb
        exact op_add_str pins s σ H _ _ v u Q I rx ry ⟨i, j, rfl, rfl, hz, k ρ H _ (.refl _ _) sr (by simp)⟩
      · simp [if_neg hz] at e
    | _ => exact fall e
  | tup xs =>
    cases b with
    | tup ys =>
      by_cases hz : xs.length + ys.length ≤ line
      · simp only [if_pos hz, Option.some.injEq] at e
        subst e
        have ra' := ra
        have rb' := rb
        simp only [RD] at ra' rb'
        obtain ⟨a1, vs, rfl, t1, r1⟩ := ra'
        obtain ⟨a2, ws, rfl, t2, r2⟩ := rb'
        have l1 := r1.length
        have l2 := r2.length
        unfold line at hz
        refine op_catA pins s σ H _ _ v u Q I rx ry ⟨a1, a2, vs, ws, rfl, rfl, by rw [hK]; exact t1.sq, by rw [hK]; exact t2.sq, by omega, fun e => ?_, fun _ e => ?_, fun _ _ p hp => ?_⟩
        · have : xs = [] := List.eq_nil_of_length_eq_zero (by rw [l1, e]; rfl)
          subst this
          exact k ρ H _ (.refl _ _) sr (by simpa using rb)
        · have : ys = [] := List.eq_nil_of_length_eq_zero (by rw [l2, e]; rfl)
          subst this
          exact k ρ H _ (.refl _ _) sr (by simpa using ra)
        · exact k ρ _ _ (sr.ext_new hp) (sr.new hp) (upd_tup sr hp (r1.append r2))
      · simp [if_neg hz] at e
    | _ => exact fall e
  | _ => cases b <;> exact fall e
theorem om_sub : OpR X (binaryOp .Sub) (rPur L (binop .sub)) := by
  intro pins s σ H x y v u Q I rx ry h
  obtain ⟨ρ, S, a, b, d, sr, ra, rb, e, k⟩ := h
  unfold binop at e
  cases a with
  | int i =>
    cases b with
    | int j =>
      simp only [Option.some.injEq] at e
      subst e
      simp only [RD_int] at ra rb
      subst ra rb
      exact op_sub pins s σ H _ _ v u Q I rx ry ⟨i, j, rfl, rfl, k ρ H _ (.refl _ _) sr (by simp)⟩
    | _ => simp at e
  | _ => cases b <;> simp at e
theorem om_fdiv : OpR X (binaryOp .FloorDiv) (rPur L (binop .fdiv)) := by
  intro pins s σ H x y v u Q I rx ry h
  obtain ⟨ρ, S, a, b, d, sr, ra, rb, e, k⟩ := h
  unfold binop at e
  cases a with
  | int i =>
    cases b with
    | int j =>
      by_cases hz : 0 < j ∧ j < 1073741824
      · simp only [if_pos hz, Option.some.injEq] at e
        subst e
        simp only [RD_int] at ra rb
        subst ra rb
        exact op_fdiv pins s σ H _ _ v u Q I rx ry ⟨i, j, rfl, rfl, hz, k ρ H _ (.refl _ _) sr (by simp)⟩
      · simp [if_neg hz] at e
    | _ => simp at e
  | _ => cases b <;> simp at e
theorem om_mod : OpR X (binaryOp .Mod) (rPur L (binop .mod)) := by
  intro pins s σ H x y v u Q I rx ry h
  obtain ⟨ρ, S, a, b, d, sr, ra, rb, e, k⟩ := h
  unfold binop at e
  cases a with
  | int i =>
    cases b with
    | int j =>
      by_cases hz : 0 < j
      · simp only [if_pos hz, Option.some.injEq] at e
        subst e
        simp only [RD_int] at ra rb
        subst ra rb
        exact op_mod pins s σ H _ _ v u Q I rx ry ⟨i, j, rfl, rfl, hz, k ρ H _ (.refl _ _) sr (by simp)⟩
      · simp [if_neg hz] at e
    | _ => simp at e
  | _ => cases b <;> simp at e
theorem om_pow : OpR X (binaryOp .Pow) (rPur L (binop .pow)) := by
  intro pins s σ H x y v u Q I rx ry h
  obtain ⟨ρ, S, a, b, d, sr, ra, rb, e, k⟩ := h
  unfold binop at e
  cases a with
  | int i =>
    cases b with
    | int j =>
      by_cases hz : 0 ≤ j ∧ j ≤ 1000000 ∧ i.natAbs < 2 ^ 64
      · simp only [if_pos hz, Option.some.injEq] at e
        subst e
        simp only [RD_int] at ra rb
        subst ra rb
        exact op_pow pins s σ H _ _ v u Q I rx ry ⟨i, j, rfl, rfl, hz, k ρ H _ (.refl _ _) sr (by simp)⟩
      · simp only [if_neg hz, reduceCtorEq] at e
    | _ => simp at e
  | _ => cases b <;> simp at e
theorem list_repO {prog : Program} {w : World} {A : Around} {E : Value → Shared → Prop} {s : Shared} {l : Addr} {its : List Value} {n : Nat} {k : Int} {t : Tok} {Q : Value → Shared → Prop} (e : s.heap.get? l = some { cls := .type "list", data := .seq its.toArray n })
    (h0 : 0 ≤ k) (h1 : k < 2 ^ 62) (hz : its.length * k.toNat ≤ sizeLine) (h : Q (.ref s.heap.objs.size) { s with heap := s.heap.push { cls := .type "list", data := .seq (List.replicate k.toNat its).flatten.toArray } }) : wpAny (model prog w) A (binaryOp .Mult (.ref l) (.int k t)) Q E s := by
  have size : its.toArray.size = its.length := List.size_toArray ..
  have c1 : ¬ its.toArray.size * k.toNat > (2 ^ 63 - 1) / 8 := by
    have q : (sizeLine : Nat) ≤ (2 ^ 63 - 1) / 8 := by decide
    rw [size]
    omega
  have c2 : ¬ (!Builtin.List.listFitsIndex k) = true := by
    rw [fitsIndex_both (by omega) (by omega)]
    exact Bool.false_ne_true
  have c3 : ¬ Builtin.List.listTooLong (its.toArray.size * k.toNat) = true := by
    rw [size, notLongL hz]
    exact Bool.false_ne_true
  have c4 : List.foldl (fun x1 x2 => x1 ++ x2) #[] (List.replicate (if its.toArray.isEmpty = true then 0 else k.toNat) its.toArray) = (List.replicate k.toNat its).flatten.toArray := by
    have f0 : ∀ m : Nat, List.foldl (fun x1 x2 => x1 ++ x2) #[] (List.replicate m its.toArray) = (List.replicate m its).flatten.toArray := fun m => (foldl_rep its m []).trans (by rw [List.nil_append])
    cases its with
    | nil => rw [f0]; simp
    | cons a r => rw [f0, if_neg (by simp)]
  refine wpAny_binaryOp_repeat_ref (T := "list") (U := "int") (by decide) ⟨_, e, rfl⟩ (fun s' => typeIs_int s' k t) noFill_list_mul F.fills_int_mul F.slot_int_rmul repeat_list F.slot_int_index.lookup (call_meets F.slot_int_rmul (typeIs_int s k t) F.entry_int_rmul (F.args_int_rmul_2 _ _) (int___rmul___int_list k t l its.toArray n) ?_)
  refine ⟨e, rfl, ⟨_, e, rfl⟩, call_meets F.slot_list_mul ⟨_, e, rfl⟩ F.entry_list_mul (F.args_list_mul_2 _ _) (AutoListH.list___mul___list_int_3 l its.toArray n k t c2 c1 c3) ⟨e, ?_⟩⟩
  rw [c4]
  exact h
theorem om_mul (hK : X.K = L.K) : OpR X (binaryOp .Mult) (rPur L (binop .mul)) := by
  intro pins s σ H x y v u Q I rx ry h
  obtain ⟨ρ, S, a, b, d, sr, ra, rb, e, k⟩ := h
  have fall : ∀ j : Int, b = .int j → ((listOf S a).bind fun xs => if 0 ≤ j ∧ j < 2 ^ 62 ∧ xs.length * j.toNat ≤ line then some (D.list (List.replicate j.toNat xs).flatten) else none) = some d → wpAny (model X.prog X.w) X.A (binaryOp .Mult v u) (EP X pins σ Q) X.xe s := by
    intro j hb h3
    subst hb
    cases q1 : listOf S a with
    | none => rw [q1] at h3; cases h3
    | some xs =>
      rw [q1] at h3
      by_cases hz : 0 ≤ j ∧ j < 2 ^ 62 ∧ xs.length * j.toNat ≤ line
      · have h3' : (if 0 ≤ j ∧ j < 2 ^ 62 ∧ xs.length * j.toNat ≤ line then some (D.list (List.replicate j.toNat xs).flatten) else none) = some d := h3
        rw [if_pos hz] at h3'
        cases h3'
        obtain ⟨a1, vs, rfl, _, r1, z1, its, n, rv, ho⟩ := listOf_obj hK I sr ra q1
        simp only [RD_int] at rb
        subst rb
        cases rx
        obtain ⟨t, rfl⟩ := ry
        have l1 := r1.length
        have l3 := rv.length
        obtain ⟨z0, z1, z2⟩ := hz
        unfold line at z2
        have hlen : its.length * j.toNat ≤ sizeLine := by rw [← l3, ← l1]; exact z2
        refine list_repO ho z0 z1 hlen ?_
        have hp : H s.heap.objs.size = none := I.fresh
        exact ⟨.ref _, _, I.lnew (t' := s.toks) (rv.rep j.toNat) (by rw [PyProof.Rows.lm_len_rep_flat, Nat.mul_comm, l3]; exact hlen), rfl, k ρ _ _ (sr.ext_new hp) (sr.new hp) (upd_list sr hp (r1.rep _))⟩
      · have h3' : (if 0 ≤ j ∧ j < 2 ^ 62 ∧ xs.length * j.toNat ≤ line then some (D.list (List.replicate j.toNat xs).flatten) else none) = some d := h3
        rw [if_neg hz] at h3'
        cases h3'
  unfold binop at e
  cases b with
  | int j =>
    cases a with
    | int i =>
      by_cases hz : bigMul i j = true
      · simp only [if_pos hz, Option.some.injEq] at e
        subst e
        simp only [RD_int] at ra rb
        subst ra rb
        have hc : CMul i j := by
          unfold bigMul at hz
          rw [Bool.or_eq_true, Bool.and_eq_true, Bool.and_eq_true] at hz
          rcases hz with ⟨h1, h2⟩ | ⟨h1, h2⟩
          · exact .inl ⟨of_decide_eq_true h1, of_decide_eq_true h2⟩
          · exact .inr ⟨of_decide_eq_true h1, of_decide_eq_true h2⟩
        exact op_mul pins s σ H _ _ v u Q I rx ry ⟨i, j, rfl, rfl, hc, k ρ H _ (.refl _ _) sr (by simp)⟩
      · simp only [if_neg hz, reduceCtorEq] at e
    | tup xs =>
      by_cases hz : 2 ≤ j ∧ j ≤ 1000 ∧ xs.length ≤ 1000
      · simp only [if_pos hz, Option.some.injEq] at e
        subst e
        simp only [RD_int] at rb
        subst rb
        obtain ⟨z1, z2, z3⟩ := hz
        by_cases z0 : xs = []
        · subst z0
          have ra2 := ra
          simp only [RD] at ra
          obtain ⟨a1, vs, rfl, t1, r1⟩ := ra
          simp only [RDs] at r1
          subst r1
          refine op_rep0 pins s σ H _ _ v u Q I rx ry ⟨a1, j, rfl, rfl, by rw [hK]; exact t1.sq, z1, z2, ?_⟩
          refine k ρ H _ (.refl _ _) sr ?_
          have e9 : (List.replicate j.toNat ([] : List D)).flatten = [] := by simp
          rw [e9]
          exact ra2
        · simp only [RD] at ra
          obtain ⟨a1, vs, rfl, t1, r1⟩ := ra
          have l1 := r1.length
          refine op_repT pins s σ H _ _ v u Q I rx ry ⟨a1, j, vs, rfl, rfl, by rw [hK]; exact t1.sq, fun e => z0 (List.eq_nil_of_length_eq_zero (by rw [l1, e]; rfl)), z1, z2, by omega, fun p hp => ?_⟩
          exact k ρ _ _ (sr.ext_new hp) (sr.new hp) (upd_tup sr hp (r1.rep _))
      · simp only [if_neg hz, reduceCtorEq] at e
    | _ => exact fall j rfl e
  | _ => cases a <;> simp at e
/-- a list times an integer: a new cell -/
def rMulM (L : Lk) : R2 := fun x y H Q => ∃ ρ S a b xs, SR L ρ S H ∧ RD L ρ H a x ∧ RD L ρ H b y ∧ mulL S a b = some xs ∧ ∀ p vs, H p = none → RDs L ρ H xs vs → Q (.ref p) (upd H p (.lst vs))
theorem om_mulM (hK : X.K = L.K) : OpR X (binaryOp .Mult) (rMulM L) := by
  intro pins s σ H x y v u Q I rx ry h
  obtain ⟨ρ, S, a, b, xs, sr, ra, rb, e, k⟩ := h
  cases b with
  | int j =>
    simp only [mulL, Option.bind_eq_some_iff] at e
    obtain ⟨ys, q1, e⟩ := e
    by_cases hz : 0 ≤ j ∧ j < 2 ^ 62 ∧ ys.length * j.toNat ≤ line
    · rw [if_pos hz] at e
      cases e
      obtain ⟨a1, vs, rfl, _, r1, z1, its, n, rv, ho⟩ := listOf_obj hK I sr ra q1
      simp only [RD_int] at rb
      subst rb
      cases rx
      obtain ⟨t, rfl⟩ := ry
      have l1 := r1.length
      have l3 := rv.length
      obtain ⟨z0, z1, z2⟩ := hz
      unfold line at z2
      have hlen : its.length * j.toNat ≤ sizeLine := by rw [← l3, ← l1]; exact z2
      refine list_repO ho z0 z1 hlen ?_
      have hp : H s.heap.objs.size = none := I.fresh
      exact ⟨.ref _, _, I.lnew (t' := s.toks) (rv.rep j.toNat) (by rw [PyProof.Rows.lm_len_rep_flat, Nat.mul_comm, l3]; exact hlen), rfl, k _ _ hp (r1.rep _)⟩
    · rw [if_neg hz] at e; cases e
  | _ => simp [mulL] at e
/-- a list and a list: a new cell -/
def rAddM (L : Lk) : R2 := fun x y H Q => ∃ ρ S a b xs, SR L ρ S H ∧ RD L ρ H a x ∧ RD L ρ H b y ∧ addL S a b = some xs ∧ ∀ p vs, H p = none → RDs L ρ H xs vs → Q (.ref p) (upd H p (.lst vs))
theorem om_addM (hK : X.K = L.K) : OpR X (binaryOp .Add) (rAddM L) := by
  intro pins s σ H x y v u Q I rx ry h
  obtain ⟨ρ, S, a, b, zs, sr, ra, rb, e, k⟩ := h
  simp only [addL, Option.bind_eq_some_iff] at e
  obtain ⟨xs, h1, ys, h2, h3⟩ := e
  obtain ⟨a1, vs, rfl, q1, r1, z1, its, n, rv, ho⟩ := listOf_obj hK I sr ra h1
  obtain ⟨a2, ws, rfl, q2, r2, z2, its2, n2, rv2, ho2⟩ := listOf_obj hK I sr rb h2
  by_cases hz : xs.length + ys.length ≤ line
  · rw [if_pos hz] at h3
    cases h3
    cases rx
    cases ry
    have l1 := r1.length
    have l2 := r2.length
    have l3 := rv.length
    have l4 := rv2.length
    unfold line at hz
    refine list_addO ho ho2 (by omega) ?_
    have hp : H s.heap.objs.size = none := I.fresh
    exact ⟨.ref _, _, I.lnew (t' := s.toks) (rv.append rv2) (by rw [List.length_append]; omega), rfl, k _ _ hp (r1.append r2)⟩
  · rw [if_neg hz] at h3
    cases h3
end
end Mi
set_option Elab.async false
set_option linter.all false
set_option maxHeartbeats 1000000
namespace Mi
open PySem PySem.Spec PyProof.Rows L2
section
variable {L : Lk} {ρ : Rho} {H : Hp} {S : Store}
mutual
theorem dp_of : ∀ (d : D) (v : V) (p : PyData), RD L ρ H d v → pyd d = some p → p.canLay0 = true → Dp L.K H v p
  | .none, v, p, r, e, _ => by
    simp only [RD_none] at r
    simp only [pyd, Option.some.injEq] at e
    subst r e
    exact .non
  | .bool b, v, p, r, e, _ => by
    simp only [RD_bool] at r
    simp only [pyd, Option.some.injEq] at e
    subst r e
    exact .bl b
  | .int b, v, p, r, e, _ => by
    simp only [RD_int] at r
    simp only [pyd, Option.some.injEq] at e
    subst r e
    exact .int b
  | .str b, v, p, r, e, _ => by
    simp only [RD_str] at r
    simp only [pyd, Option.some.injEq] at e
    subst r e
    exact .str b
  | .tup xs, v, p, r, e, h => by
    simp only [RD] at r
    obtain ⟨a, vs, rfl, t, rs⟩ := r
    simp only [pyd, Option.map_eq_some_iff] at e
    obtain ⟨ds, e, rfl⟩ := e
    exact .tup t.sq (dps_of xs vs ds rs e (by simpa only [PyData.canLay0] using h))
  | .list xs, v, p, r, e, h => by
    simp only [RD] at r
    obtain ⟨a, vs, rfl, t, rs⟩ := r
    simp only [pyd, Option.map_eq_some_iff] at e
    obtain ⟨ds, e, rfl⟩ := e
    exact .lst t.sq (dps_of xs vs ds rs e (by simpa only [PyData.canLay0] using h))
  | .dict ks xs, v, p, r, e, h => by
    simp only [pyd, Option.map_eq_some_iff] at e
    obtain ⟨ds, e, rfl⟩ := e
    simp [PyData.canLay0] at h
  | .obj c fs, v, p, r, e, _ => by simp [pyd] at e
  | .exc c fs, v, p, r, e, _ => by simp [pyd] at e
  | .cls c, v, p, r, e, _ => by simp [pyd] at e
  | .ref c, v, p, r, e, _ => by simp [pyd] at e
theorem dps_of : ∀ (ds : List D) (vs : List V) (ps : List PyData), RDs L ρ H ds vs → pyds ds = some ps → PyData.canLayAll0 ps = true → DpAll L.K H vs ps
  | [], vs, ps, r, e, _ => by
    simp only [RDs] at r
    simp only [pyds, Option.some.injEq] at e
    subst r e
    exact .nil
  | d :: ds, vs, ps, r, e, h => by
    simp only [RDs] at r
    obtain ⟨v, ws, rfl, r1, rs⟩ := r
    cases q1 : pyd d with
    | none => simp [pyds, q1] at e
    | some p1 =>
      cases q2 : pyds ds with
      | none => simp [pyds, q1, q2] at e
      | some p2 =>
        simp only [pyds, q1, q2, Option.some.injEq] at e
        subst e
        simp only [PyData.canLayAll0, Bool.and_eq_true] at h
        exact .cons (dp_of d v p1 r1 q1 h.1) (dps_of ds ws p2 rs q2 h.2)
end
theorem dpS_of (sr : SR L ρ S H) {d : D} {v : V} {p : PyData} (r : RD L ρ H d v) (e : pyS S d = some p) (h : SeqAt.shaped p = true) : Dp L.K H v p := by
  have hl := SeqAt.canLay_of_shaped h
  unfold pyS deref at e
  cases d with
  | ref n =>
    cases q : S[n]? with
    | none => simp [q, pyd] at e
    | some c =>
      cases c with
      | list xs =>
        simp only [q, pyd, Option.map_eq_some_iff] at e
        obtain ⟨ds, e, rfl⟩ := e
        obtain ⟨a, rfl, _, vs, ha, rs⟩ := sr.at r q (by simp)
        exact .lst (SqL.of ha) (dps_of xs vs ds rs e (by simpa only [PyData.canLay0] using hl))
      | _ => simp [q, pyd] at e
  | _ => exact dp_of _ v p r e hl
end
section
variable {X : Cx} {L : Lk}
theorem om_eq (hK : X.K = L.K) (hu : X.A.units + 64 < cLine) : OpR X (compareOp .Eq) (rPur L (cmpop .eq)) := by
  intro pins s σ H x y v u Q I rx ry h
  obtain ⟨ρ, S, a, b, d, sr, ra, rb, e, k⟩ := h
  simp only [cmpop, eqOp, Option.map_eq_some_iff, Option.bind_eq_some_iff] at e
  obtain ⟨z, ⟨p, e1, q, e2, e3⟩, rfl⟩ := e
  by_cases hs : SeqAt.shaped p = true ∧ SeqAt.shaped q = true
  · rw [if_pos hs] at e3
    cases e3
    refine op_eqD hu pins s σ H x y v u Q I rx ry ⟨p, q, by rw [hK]; exact dpS_of sr ra e1 hs.1, by rw [hK]; exact dpS_of sr rb e2 hs.2, hs.1, hs.2, k ρ H _ (.refl _ _) sr (by simp)⟩
  · rw [if_neg hs] at e3
    cases e3
theorem om_ne (hK : X.K = L.K) (hu : X.A.units + 64 < cLine) : OpR X (compareOp .NotEq) (rPur L (cmpop .ne)) := by
  intro pins s σ H x y v u Q I rx ry h
  obtain ⟨ρ, S, a, b, d, sr, ra, rb, e, k⟩ := h
  simp only [cmpop, eqOp, Option.map_eq_some_iff, Option.bind_eq_some_iff] at e
  obtain ⟨z, ⟨p, e1, q, e2, e3⟩, rfl⟩ := e
  by_cases hs : SeqAt.shaped p = true ∧ SeqAt.shaped q = true
  · rw [if_pos hs] at e3
    cases e3
    refine op_neD hu pins s σ H x y v u Q I rx ry ⟨p, q, by rw [hK]; exact dpS_of sr ra e1 hs.1, by rw [hK]; exact dpS_of sr rb e2 hs.2, hs.1, hs.2, k ρ H _ (.refl _ _) sr (by simp)⟩
  · rw [if_neg hs] at e3
    cases e3
theorem om_ord {o : COp} {op : CmpOp} {g : Int → Int → Bool} (ho : ∀ i j, ordInt o i j = some (g i j)) (hne : o = .lt ∨ o = .le ∨ o = .gt ∨ o = .ge) (rule : OpR X (compareOp op) (rI0 fun i j => .bl (g i j))) : OpR X (compareOp op) (rPur L (cmpop o)) := by
  intro pins s σ H x y v u Q I rx ry h
  obtain ⟨ρ, S, a, b, d, sr, ra, rb, e, k⟩ := h
  cases a with
  | int i =>
    cases b with
    | int j =>
      have e' : (ordInt o i j).map D.bool = some d := by
        rcases hne with rfl | rfl | rfl | rfl <;> exact e
      simp only [ho, Option.map_some, Option.some.injEq] at e'
      subst e'
      simp only [RD_int] at ra rb
      subst ra rb
      exact rule pins s σ H _ _ v u Q I rx ry ⟨i, j, rfl, rfl, k ρ H _ (.refl _ _) sr (by simp)⟩
    | _ => rcases hne with rfl | rfl | rfl | rfl <;> simp [cmpop] at e
  | _ => rcases hne with rfl | rfl | rfl | rfl <;> cases b <;> simp [cmpop] at e
theorem om_lt : OpR X (compareOp .Lt) (rPur L (cmpop .lt)) := om_ord (g := fun i j => decide (i < j)) (fun _ _ => rfl) (.inl rfl) op_lt
theorem om_le : OpR X (compareOp .LtE) (rPur L (cmpop .le)) := om_ord (g := fun i j => decide (i ≤ j)) (fun _ _ => rfl) (.inr (.inl rfl)) op_le
theorem om_gt : OpR X (compareOp .Gt) (rPur L (cmpop .gt)) := om_ord (g := fun i j => decide (j < i)) (fun _ _ => rfl) (.inr (.inr (.inl rfl))) op_gt
theorem om_ge : OpR X (compareOp .GtE) (rPur L (cmpop .ge)) := om_ord (g := fun i j => decide (j ≤ i)) (fun _ _ => rfl) (.inr (.inr (.inr rfl))) op_ge
theorem key_rd {ρ : Rho} {H : Hp} {d : D} {k : Key} {v : V} (e : keyOf d = some k) (r : RD L ρ H d v) : v = kV k := by
  cases d with
  | int i =>
    simp only [keyOf, Option.some.injEq] at e
    subst e
    simpa [kV] using r
  | str i =>
    simp only [keyOf, Option.some.injEq] at e
    subst e
    simpa [kV] using r
  | _ => simp [keyOf] at e
theorem keys_rd {ρ : Rho} {H : Hp} : ∀ {ds : List D} {ks : List Key} {vs : List V}, keysOf ds = some ks → RDs L ρ H ds vs → vs = ks.map kV
  | [], ks, vs, e, r => by
    simp only [keysOf, Option.some.injEq] at e
    simp only [RDs] at r
    subst e r
    rfl
  | d :: ds, ks, vs, e, r => by
    simp only [RDs] at r
    obtain ⟨v, ws, rfl, r1, rs⟩ := r
    cases q1 : keyOf d with
    | none => simp [keysOf, q1] at e
    | some k =>
      cases q2 : keysOf ds with
      | none => simp [keysOf, q1, q2] at e
      | some ks' =>
        simp only [keysOf, q1, q2, Option.some.injEq] at e
        subst e
        rw [key_rd q1 r1, keys_rd q2 rs]
        rfl
theorem val_rd {κ : Type} [DecidableEq κ] {ρ : Rho} {H : Hp} {k : κ} : ∀ {kvs : List (κ × D)} {vs : List V}, RDs L ρ H (kvs.map (·.2)) vs →
    (∀ d, (kvs.find? fun q => decide (q.1 = k)).map (·.2) = some d → ∃ v, valV ((kvs.map (·.1)).zip vs) k = some v ∧ RD L ρ H d v) ∧ ((kvs.find? fun q => decide (q.1 = k)).map (·.2) = none → valV ((kvs.map (·.1)).zip vs) k = none)
  | [], vs, r => by
    refine ⟨fun d h => by simp at h, fun _ => by simp [valV]⟩
  | (k', d) :: kvs, vs, r => by
    simp only [List.map_cons, RDs] at r
    obtain ⟨v, ws, rfl, r1, rs⟩ := r
    obtain ⟨ih1, ih2⟩ := val_rd (k := k) rs
    by_cases hk : k' = k
    · refine ⟨fun d' h => ?_, fun h => ?_⟩
      · simp only [List.find?_cons, hk, decide_true, Option.map_some, Option.some.injEq] at h
        subst h
        exact ⟨v, valV_pos (p := (k', v)) hk, r1⟩
      · simp [List.find?_cons, hk] at h
    · refine ⟨fun d' h => ?_, fun h => ?_⟩
      · simp only [List.find?_cons, hk, decide_false] at h
        obtain ⟨w, h1, h2⟩ := ih1 d' h
        exact ⟨w, by rw [← h1]; exact valV_neg (p := (k', v)) hk, h2⟩
      · simp only [List.find?_cons, hk, decide_false] at h
        rw [← ih2 h]
        exact valV_neg (p := (k', v)) hk
theorem dget_of {ρ : Rho} {H : Hp} {S : Store} (sr : SR L ρ S H) {n : Nat} {k : D} {r : Option D} {x y : V} (rx : RD L ρ H (.ref n) x) (ry : RD L ρ H k y) (e : dGet S n k = some r) :
    ∃ a o, x = .ref a ∧ DGet H a y o ∧ (∀ d, r = some d → ∃ v, o = some v ∧ RD L ρ H d v) ∧ (r = none → o = none) := by
  unfold dGet at e
  cases q : S[n]? with
  | none => simp [q] at e
  | some c =>
    cases c with
    | dK kvs =>
      simp only [q, Option.map_eq_some_iff] at e
      obtain ⟨k', e1, e2⟩ := e
      obtain ⟨a, rfl, _, vs, ha, nd, rs⟩ := sr.at rx q (by simp)
      have hy := key_rd e1 ry
      subst hy
      obtain ⟨v1, v2⟩ := val_rd (k := k') rs
      exact ⟨a, _, rfl, DGet.k ha, fun d hd => v1 d (by rw [e2, hd]), fun hn => v2 (by rw [e2, hn])⟩
    | dT kvs =>
      simp only [q] at e
      cases k with
      | tup ks =>
        simp only [Option.map_eq_some_iff] at e
        obtain ⟨k', e1, e2⟩ := e
        obtain ⟨a, rfl, _, vs, ⟨ha, nd⟩, rs⟩ := sr.at rx q (by simp)
        have ry' := ry
        simp only [RD] at ry'
        obtain ⟨b, ws, rfl, ht, rt⟩ := ry'
        have hb := ht.1
        rw [keys_rd e1 rt] at hb
        obtain ⟨v1, v2⟩ := val_rd (k := k') rs
        exact ⟨a, _, rfl, DGet.t ha hb, fun d hd => v1 d (by rw [e2, hd]), fun hn => v2 (by rw [e2, hn])⟩
      | _ => simp at e
    | _ => simp [q] at e
end
end Mi
set_option Elab.async false
set_option linter.all false
set_option maxHeartbeats 1000000
namespace Mi
open PySem PySem.Spec PyProof.Rows L2
section
variable {X : Cx} {L : Lk} {pins : List (Addr × Obj)} {σ : L2.St} {ρ : Rho} {H : Hp} {S : Store} {s : Shared}
theorem seq_cases {d : D} {xs : List D} (h : seqOf S d = some xs) : (listOf S d = some xs) ∨ d = .tup xs := by
  cases d with
  | tup ys =>
    have e : ys = xs := by simpa [seqOf, deref] using h
    exact .inr (by rw [e])
  | list ys => exact .inl (by simpa [seqOf, listOf, deref] using h)
  | ref n =>
    refine .inl ?_
    unfold seqOf deref at h
    unfold listOf deref
    cases q : S[n]? with
    | none => simp [q] at h
    | some c => cases c <;> simp [q] at h ⊢; exact h
  | _ => simp [seqOf, deref] at h
/-- what stands in a list, a tuple as data -/
theorem in_raw (hK : X.K = L.K) (hu : X.A.units + 65 < cLine) (I : Inv X pins σ H s) (sr : SR L ρ S H) {a b : D} {x y : V} {v u : Value} (ra : RD L ρ H a x) (rb : RD L ρ H b y) (rx : RelV x v) (ry : RelV y u) {z : Bool} (h : inSeq S a b = some z)
    {Q : Value → Shared → Prop} {Q' : Value → Shared → Prop} : (Q (.bool z) s → wpAny (model X.prog X.w) X.A (compareOp .In v u) Q X.xe s) ∧ (Q' (.bool (!z)) s → wpAny (model X.prog X.w) X.A (compareOp .NotIn v u) Q' X.xe s) := by
  simp only [inSeq, Option.bind_eq_some_iff] at h
  obtain ⟨xs, e1, ys, e2, p, e3, e4⟩ := h
  by_cases hs : SeqAt.shaped p = true ∧ SeqAt.shaped (.list ys) = true
  · rw [if_pos hs] at e4
    cases e4
    obtain ⟨s1, s2⟩ := hs
    have d1 : Dp X.K H x p := by rw [hK]; exact dpS_of sr ra e3 s1
    obtain ⟨as, r1⟩ := Dp.reads I p x v d1 rx
    have c2 : PyData.canLayAll0 ys = true := SeqAt.canLay_of_shaped s2
    rcases seq_cases e1 with hl | rfl
    · obtain ⟨a1, vs, rfl, hq, rs, z1, its, n, rv, ho⟩ := listOf_obj hK I sr rb hl
      have d2 : Dp X.K H (.ref a1) (.list ys) := .lst (by rw [hK]; exact hq) (by rw [hK]; exact dps_of xs vs ys rs e2 c2)
      obtain ⟨bs, r2⟩ := Dp.reads I (.list ys) _ u d2 ry
      exact ⟨fun q => SeqAt.in_list_reads r2 r1 c2 (SeqAt.canLay_of_shaped s1) (room_in_shaped s1 hu) q, fun q => SeqAt.notIn_list_reads r2 r1 c2 (SeqAt.canLay_of_shaped s1) (room_in_shaped s1 hu) q⟩
    · simp only [RD] at rb
      obtain ⟨a1, vs, rfl, ht, rs⟩ := rb
      have d2 : Dp X.K H (.ref a1) (.tuple ys) := .tup (by rw [hK]; exact ht.sq) (by rw [hK]; exact dps_of xs vs ys rs e2 c2)
      obtain ⟨bs, r2⟩ := Dp.reads I (.tuple ys) _ u d2 ry
      exact ⟨fun q => SeqAt.in_tuple_reads r2 r1 c2 (SeqAt.canLay_of_shaped s1) (room_in_shaped s1 hu) q, fun q => SeqAt.notIn_tuple_reads r2 r1 c2 (SeqAt.canLay_of_shaped s1) (room_in_shaped s1 hu) q⟩
  · rw [if_neg hs] at e4
    cases e4
theorem in_cases {a b : D} {z : Bool} (h : inOp S a b = some z) : (∃ n r, b = .ref n ∧ dGet S n a = some r ∧ z = r.isSome) ∨ inSeq S a b = some z := by
  unfold inOp at h
  split at h
  · next n q =>
    simp only [Option.map_eq_some_iff] at h
    obtain ⟨r, e, rfl⟩ := h
    exact .inl ⟨_, r, rfl, e, rfl⟩
  · exact .inr h
theorem om_in (hK : X.K = L.K) (hu : X.A.units + 65 < cLine) : OpR X (compareOp .In) (rPur L (cmpop .in_)) := by
  intro pins s σ H x y v u Q I rx ry h
  obtain ⟨ρ, S, a, b, d, sr, ra, rb, e, k⟩ := h
  simp only [cmpop, Option.map_eq_some_iff] at e
  obtain ⟨z, e, rfl⟩ := e
  have fin : ∀ s', Inv X pins σ H s' → EP X pins σ Q (.bool z) s' := fun s' I' => ⟨.bl z, H, I', rfl, k ρ H _ (.refl _ _) sr (by simp)⟩
  rcases in_cases e with ⟨n, r, rfl, g, rfl⟩ | e
  · obtain ⟨a1, o, rfl, dg, h1, h2⟩ := dget_of sr rb ra g
    cases ry
    have ho : o.isSome = r.isSome := by
      cases r with
      | none => rw [h2 rfl]; rfl
      | some d => obtain ⟨v, hv, _⟩ := h1 d rfl; rw [hv]; rfl
    exact d_in (by omega) I dg rx fun s' I' => by rw [ho]; exact fin s' I'
  · exact (in_raw hK hu I sr ra rb rx ry e (Q' := EP X pins σ Q)).1 (fin s I)
theorem om_nin (hK : X.K = L.K) (hu : X.A.units + 65 < cLine) : OpR X (compareOp .NotIn) (rPur L (cmpop .nin)) := by
  intro pins s σ H x y v u Q I rx ry h
  obtain ⟨ρ, S, a, b, d, sr, ra, rb, e, k⟩ := h
  simp only [cmpop, Option.map_eq_some_iff] at e
  obtain ⟨z, e, rfl⟩ := e
  have fin : ∀ s', Inv X pins σ H s' → EP X pins σ Q (.bool (!z)) s' := fun s' I' => ⟨.bl (!z), H, I', rfl, k ρ H _ (.refl _ _) sr (by simp)⟩
  rcases in_cases e with ⟨n, r, rfl, g, rfl⟩ | e
  · obtain ⟨a1, o, rfl, dg, h1, h2⟩ := dget_of sr rb ra g
    cases ry
    have ho : o.isSome = r.isSome := by
      cases r with
      | none => rw [h2 rfl]; rfl
      | some d => obtain ⟨v, hv, _⟩ := h1 d rfl; rw [hv]; rfl
    exact d_notIn (by omega) I dg rx fun s' I' => by rw [ho]; exact fin s' I'
  · exact (in_raw hK hu I sr ra rb rx ry e (Q := EP X pins σ Q)).2 (fin s I)
theorem atI_rd {xs : List D} {vs : List V} {i : Int} {d : D} (r : RDs L ρ H xs vs) (h : atI xs i = some d) : ∃ v, atI vs i = some v ∧ RD L ρ H d v := by
  unfold atI at h ⊢
  rw [← r.length]
  cases q : ixN xs.length i with
  | none => rw [q] at h; cases h
  | some j =>
    rw [q] at h
    exact r.get h
theorem ix_cases {a i d : D} (e : ixop S a i = some d) : (∃ n, a = .ref n ∧ dGet S n i = some (some d)) ∨ (∃ z j c, a = .str z ∧ i = .int j ∧ z.length ≤ line ∧ atI z.cps.toList j = some c ∧ d = .str ⟨#[c]⟩) ∨ ∃ xs j, seqOf S a = some xs ∧ i = .int j ∧ atI xs j = some d := by
  have last : ∀ {o : Option D}, o = some d → (o = (seqOf S a).bind fun xs => match i with
    | .int i => atI xs i
    | _ => none) → ∃ xs j, seqOf S a = some xs ∧ i = .int j ∧ atI xs j = some d := by
    intro o h1 h2
    rw [h1] at h2
    cases q : seqOf S a with
    | none => rw [q] at h2; cases h2
    | some xs =>
      rw [q] at h2
      cases i with
      | int j => exact ⟨xs, j, rfl, rfl, h2.symm⟩
      | _ => cases h2
  unfold ixop at e
  cases a with
  | str z =>
    refine .inr (.inl ?_)
    cases i with
    | int j =>
      simp only [isDict] at e
      by_cases hz : z.length ≤ line
      · rw [if_pos hz] at e
        simp only [Option.map_eq_some_iff] at e
        obtain ⟨c, e, rfl⟩ := e
        exact ⟨z, j, c, rfl, rfl, hz, e, rfl⟩
      · rw [if_neg hz] at e; cases e
    | _ => simp [isDict] at e
  | ref n =>
    cases q : isDict S (.ref n) with
    | true =>
      rw [q] at e
      simp only [Option.bind_eq_some_iff] at e
      obtain ⟨r, g, rfl⟩ := e
      exact .inl ⟨n, rfl, g⟩
    | false =>
      rw [q] at e
      exact .inr (.inr (last e rfl))
  | _ => exact .inr (.inr (last e rfl))
theorem om_ix (hK : X.K = L.K) (hu : X.A.units + 65 < cLine) : IxR X (rPur L ixop) := by
  intro value slice pins s σ H x y v u Q I rx ry h hs
  obtain ⟨ρ, S, a, b, d, sr, ra, rb, e, k⟩ := h
  rcases ix_cases e with ⟨n, rfl, g⟩ | ⟨z, i, c, rfl, rfl, hz, e9, rfl⟩ | ⟨xs, i, e1, rfl, e2⟩
  · obtain ⟨a1, o, rfl, dg, h1, h2⟩ := dget_of sr ra rb g
    obtain ⟨w, rfl, rw'⟩ := h1 d rfl
    cases rx
    have ht : ∃ T id, typeLookup (.type T) "__getitem__" = pure (some (.builtin id)) ∧ s.TypeIs (.ref a1) T := by
      rcases dg with ⟨kvs, k', e1, _, _⟩ | ⟨kvs, k', b', e1, _, _, _⟩
      · obtain ⟨z, hd, ys, rel, dd⟩ := dk_rd I.hok e1
        exact ⟨"dict", _, slot_dict_getitem.lookup, dd.typeIs⟩
      · obtain ⟨z, hd, ys, rel, dd⟩ := dt_rd I.hok e1
        exact ⟨"dict", _, slot_dict_getitem.lookup, dd.typeIs⟩
    obtain ⟨T, id, hT, hty⟩ := ht
    refine tail_any hty hT (d_getItem (by omega) I dg ry fun w' s' I' r' => ?_) hs
    exact ⟨w, H, I', r', k ρ H _ (.refl _ _) sr rw'⟩
  · simp only [RD_str, RD_int] at ra rb
    subst ra rb
    exact ix_str value slice pins s σ H _ _ v u Q I rx ry ⟨z, i, c, rfl, rfl, hz, e9, k ρ H _ (.refl _ _) sr (by simp)⟩ hs
  · simp only [RD_int] at rb
    subst rb
    obtain ⟨a1, vs, rfl, hq, rs, z1⟩ := seqOf_sq hK I sr ra e1
    obtain ⟨w, hw, rw'⟩ := atI_rd rs e2
    rcases hq with hq | hq
    · exact ix_list value slice pins s σ H _ _ v u Q I rx ry ⟨a1, vs, i, w, rfl, rfl, by rw [hK]; exact hq, hw, k ρ H _ (.refl _ _) sr rw'⟩ hs
    · exact ix_tup value slice pins s σ H _ _ v u Q I rx ry ⟨a1, vs, i, w, rfl, rfl, by rw [hK]; exact hq, hw, k ρ H _ (.refl _ _) sr rw'⟩ hs
theorem cut_rd {xs : List D} {vs : List V} (r : RDs L ρ H xs vs) (lo hi : Option Int) : RDs L ρ H (cutD xs lo hi) (cutV vs lo hi) := by
  unfold cutD cutV
  rw [r.length]
  exact (r.drop _).take _
theorem deref_cases {d : D} : (∃ xs, deref S d = .tup xs ∧ d = .tup xs) ∨ (∃ xs, deref S d = .list xs ∧ listOf S d = some xs) ∨ ((∀ xs, deref S d ≠ .tup xs) ∧ ∀ xs, deref S d ≠ .list xs) := by
  unfold listOf
  cases d with
  | tup xs => exact .inl ⟨xs, rfl, rfl⟩
  | list xs => exact .inr (.inl ⟨xs, rfl, rfl⟩)
  | ref n =>
    unfold deref
    cases q : S[n]? with
    | none => exact .inr (.inr ⟨fun xs => by simp [q], fun xs => by simp [q]⟩)
    | some c =>
      cases c with
      | list xs => exact .inr (.inl ⟨xs, by simp [q], by simp [q]⟩)
      | _ => exact .inr (.inr ⟨fun xs => by simp [q], fun xs => by simp [q]⟩)
  | _ => exact .inr (.inr ⟨fun xs => by simp [deref], fun xs => by simp [deref]⟩)
theorem om_sl (hK : X.K = L.K) : SlR X (rSlM L) := by
  intro pins s σ H x v vl vu lo hi sl Q I rx hsl pl pu h
  obtain ⟨ρ, S, a, d, sr, ra, e, k⟩ := h
  unfold slop at e
  rcases deref_cases (S := S) (d := a) with ⟨xs, q, rfl⟩ | ⟨xs, q, hl⟩ | ⟨n1, n2⟩
  · simp only [q, Option.some.injEq] at e
    subst e
    simp only [RD] at ra
    obtain ⟨a1, vs, rfl, ht, rs⟩ := ra
    refine sl_tupA pins s σ H _ v vl vu lo hi sl Q I rx hsl pl pu ⟨a1, vs, rfl, by rw [hK]; exact ht.sq, fun hw => ?_, fun hw p hp => ?_⟩
    · have ec : cutD xs lo hi = xs := by
        unfold cutD
        rw [rs.length, hw.1, hw.2, ← rs.length]
        simp
      rw [ec] at k
      exact k ρ H _ (.refl _ _) sr (by simp only [RD]; exact ⟨a1, vs, rfl, ht, rs⟩)
    · exact k ρ _ _ (sr.ext_new hp) (sr.new hp) (upd_tup sr hp (cut_rd rs lo hi))
  · simp only [q, Option.some.injEq] at e
    subst e
    obtain ⟨a1, vs, rfl, hq, rs, z1, its, n, rv, ho⟩ := listOf_obj hK I sr ra hl
    exact sl_list pins s σ H _ v vl vu lo hi sl Q I rx hsl pl pu ⟨a1, vs, rfl, by rw [hK]; exact hq, fun p hp => k ρ _ _ (sr.ext_new hp) (sr.new hp) (upd_list sr hp (cut_rd rs lo hi))⟩
  · cases q : deref S a with
    | tup xs => exact absurd q (n1 xs)
    | list xs => exact absurd q (n2 xs)
    | _ => simp [q] at e
end
def rSlN (L : Lk) : V → Option Int → Option Int → Hp → VK → Prop := fun x lo hi H Q => ∃ ρ S a xs, SR L ρ S H ∧ RD L ρ H a x ∧ slL S a lo hi = some xs ∧ ∀ p vs, H p = none → RDs L ρ H xs vs → Q (.ref p) (upd H p (.lst vs))
section
variable {X : Cx} {L : Lk} {W : WX} {P : Prog} {Φ : Call} {a : Expr} {ea : E} {pos : Pos}
theorem om_slN (hK : X.K = L.K) : SlR X (rSlN L) := by
  intro pins s σ H x v vl vu lo hi sl Q I rx hsl pl pu h
  obtain ⟨ρ, S, a, zs, sr, ra, e, k⟩ := h
  unfold slL at e
  obtain ⟨xs, h1, rfl⟩ := Option.map_eq_some_iff.mp e
  obtain ⟨a1, vs, rfl, hq, rs, z1, its, n, rv, ho⟩ := listOf_obj hK I sr ra h1
  exact sl_list pins s σ H _ v vl vu lo hi sl Q I rx hsl pl pu ⟨a1, vs, rfl, by rw [hK]; exact hq, fun p hp => k p _ hp (cut_rd rs lo hi)⟩
end
section
variable {prog : Program} {w : World} {A : Around} {E : Value → Shared → Prop} {s : Shared}
theorem sliceApplied_rev {sl : Addr} {vl vu vs : Value} {n : Nat} {Q : Int × Int × Nat → Shared → Prop} (hs : s.heap.IsSliceOf sl vl vu vs) (pl : IsPart vl none) (pu : IsPart vu none) (ps : IsPart vs (some (-1)))
    (h : Q ((n : Int) - 1, -1, n) s) : wpAny (model prog w) A (Builtin.Slice.sliceApplied (.ref sl) (pure (n : Int))) Q E s := by
  obtain ⟨os, hos, hcs, hds⟩ := id hs
  unfold Builtin.Slice.sliceApplied Builtin.Slice.sliceFields
  refine wpAny_bind (wpAny_bind (wpAny_field hos hds (x := vl) rfl (wpAny_bind (wpAny_field hos hds (x := vu) rfl (wpAny_bind (wpAny_field hos hds (x := vs) rfl (wpAny_pure ?_)))))))
  refine wpAny_bind (HT.slicePart_ ps ?_)
  show wpAny _ _ (if ((-1 : Int) == 0) = true then _ else _) _ _ s
  rw [if_neg (by decide)]
  refine wpAny_bind (HT.slicePart_ pl (wpAny_bind (HT.slicePart_ pu (wpAny_bind (wpAny_pure ?_)))))
  show wpAny _ _ (match Builtin.Slice.sliceAdjust none none (-1) (n : Int) with | (lo, hi) => pure (lo, (-1 : Int), Builtin.Slice.slicePlaces lo hi (-1))) _ _ s
  have e1 : Builtin.Slice.sliceAdjust none none (-1) (n : Int) = ((n : Int) - 1, -1) := by
    unfold Builtin.Slice.sliceAdjust
    simp
  have e2 : Builtin.Slice.slicePlaces ((n : Int) - 1) (-1) (-1) = n := by
    unfold Builtin.Slice.slicePlaces
    simp
    split <;> omega
  rw [e1]
  show wpAny _ _ (pure ((n : Int) - 1, (-1 : Int), Builtin.Slice.slicePlaces ((n : Int) - 1) (-1) (-1))) _ _ s
  rw [e2]
  exact wpAny_pure h
theorem pick_rev (xs : Array Value) : ((List.range xs.size).filterMap fun (m : Nat) => xs[((xs.size : Int) - 1 + (m : Int) * -1).toNat]?).toArray = xs.toList.reverse.toArray := by
  have e : (List.range xs.size).map (fun m => xs.size - 1 - m) = (List.range xs.size).reverse := PySem.W.krv_range xs.size
  have e2 : ((List.range xs.size).filterMap fun (m : Nat) => xs[((xs.size : Int) - 1 + (m : Int) * -1).toNat]?) = ((List.range xs.size).map (fun m => xs.size - 1 - m)).filterMap (xs[·]?) := by
    rw [List.filterMap_map]
    congr 1
    funext m
    by_cases hm : m < xs.size
    · have : ((xs.size : Int) - 1 + (m : Int) * -1).toNat = xs.size - 1 - m := by omega
      show xs[((xs.size : Int) - 1 + (m : Int) * -1).toNat]? = xs[xs.size - 1 - m]?
      rw [this]
    · have : ((xs.size : Int) - 1 + (m : Int) * -1).toNat = xs.size - 1 - m := by omega
      show xs[((xs.size : Int) - 1 + (m : Int) * -1).toNat]? = xs[xs.size - 1 - m]?
      rw [this]
  rw [e2, e, List.filterMap_reverse, PySem.W.krv_all]
theorem getItem_tuple_rev {t sl : Addr} {items : Array Value} {vl vu vs : Value} {Q : Value → Shared → Prop} (ht : IsTup s.heap t items) (hs : s.heap.IsSliceOf sl vl vu vs) (pl : IsPart vl none) (pu : IsPart vu none) (ps : IsPart vs (some (-1)))
    (h : Q (.ref s.heap.objs.size) { s with heap := s.heap.push { cls := .type "tuple", data := .seq items.toList.reverse.toArray } })
    (hsz : items.size ≤ sizeLine) : wpAny (model prog w) A (getItem (.ref t) (.ref sl)) Q E s := by
  have htake : sizeOk (.seq items.toList.reverse.toArray) := by
    show items.toList.reverse.toArray.size ≤ sizeLine
    simpa using hsz
  obtain ⟨os, hos, hcs, hds⟩ := id hs
  have hTs : s.TypeIs (.ref sl) "slice" := ⟨os, hos, hcs⟩
  unfold getItem
  try with_reducible refine wpAny_holding ?_
  first | refine wpAny_bind (wpAny_pure ?_) | skip
  refine wpAny_bind (wpAny_sequenceKey ht.typeIs (by decide) ?_)
  refine wpAny_bind (wpAny_callSpecial?_slot (name := Str.ofString "__getitem__") ht.typeIs PyProof.Rows.slot_tuple_getitem
    (wpAny_call_entry PyProof.Rows.slot_tuple_getitem ht.typeIs entry_tuple_getitem ?_ (args_tuple_getitem _ _)))
  show wpAny _ _ (Builtin.Tuple.tupleItemsOf (.ref t) >>= _) _ _ s
  refine wpAny_bind (tupleItemsOf_ ht ?_)
  refine wpAny_bind (wpAny_typeOf hTs ?_)
  rw [if_pos (by decide)]
  refine wpAny_bind (sliceApplied_rev hs pl pu ps ?_)
  have hno : ¬ ((((items.size : Int) - 1 == 0) && (-1 : Int) == 1 && items.size == items.size) = true) := by simp
  show wpAny _ _ (if (((items.size : Int) - 1 == 0) && (-1 : Int) == 1 && items.size == items.size) = true then _ else _) _ _ s
  rw [if_neg hno, pick_rev]
  first
    | exact wpAny_bind (m := Builtin.Tuple.tupleExact _) (wpAny_newObj_type (wpAny_pure ⟨_, rfl, wpAny_pure h⟩) htake)
    | exact wpAny_bind (m := Builtin.Tuple.tupleExact _) (wpAny_newObj_type (wpAny_bind (wpAny_pure (wpAny_pure ⟨_, rfl, wpAny_pure h⟩))) htake)
end
section
variable {X : Cx} {L : Lk} {W : WX} {P : Prog} {Φ : Call} {pos : Pos} {e : Expr} {ea : E}
/-- a list's items the other way round, a tuple's -/
theorem pm_rev {k : Nat} {p1 p2 p3 : Pos} (hK : X.K = L.K) (he : PE X e (tE L W (ev P Φ ea))) : PE X (.Subscript e (.Slice none none (some (.UnaryOp .USub (.Constant (.int 1) k p1) p2)) p3) pos) (tE L W (ev P Φ (.rev ea))) := by
  refine ⟨fun pins s σ H Q I ⟨ρ, S, η, sr, er, po⟩ => ?_⟩
  unfold ev at po
  refine Subscript_ (thn (he.run pins s σ H (fun x H1 => ∃ ρ1 S1 d1, SR L ρ1 S1 H1 ∧ RD L ρ1 H1 d1 x ∧ ∃ d, revop S1 d1 = some d ∧ ∀ ρ' H' v, Ext ρ1 H1 ρ' H' → SR L ρ' S1 H' → RD L ρ' H' d v → Q v H') I ?_) fun v s1 ⟨x, H1, I1, r1, q1⟩ => ?_)
  · refine first sr er po fun x H1 ⟨ρ1, S1, d1, x1, s1, r1, p1⟩ => ?_
    obtain ⟨d, e, k⟩ := Post.pur p1
    exact ⟨ρ1, S1, d1, s1, r1, d, e, k⟩
  obtain ⟨ρ1, S1, d1, sr1, ra, d, e1, kk⟩ := q1
  have hst : PO X (some (.UnaryOp .USub (.Constant (.int 1) k p1) p2)) (tPart (tUn (rU fun i => .int (-i)) (tC (.int 1)))) := po_some (pe_un un_neg pe_int)
  refine wpAny_Slice (thn (po_none.run pins s1 σ H1 (fun o H2 => o = none ∧ H2 = H1) I1 ⟨rfl, rfl⟩) fun vl s2 ⟨l, H2, I2, pl, el, e2⟩ => ?_)
  subst el e2
  refine thn (po_none.run pins s2 σ H2 (fun o H3 => o = none ∧ H3 = H2) I2 ⟨rfl, rfl⟩) fun vu s3 ⟨u, H3, I3, pu, eu, e3⟩ => ?_
  subst eu e3
  refine thn (hst.run pins s3 σ H3 (fun o H4 => o = some (-1) ∧ H4 = H3) I3 ⟨1, rfl, -1, rfl, rfl, rfl⟩) fun vs s4 ⟨o, H4, I4, ps, eo, e4⟩ => ?_
  subst eo e4
  have I5 : Inv X pins σ H4 { s4 with heap := s4.heap.push { cls := .type "slice", data := .fields #[vl, vu, vs] } } := I4.kept (t' := s4.toks) fun b ob q => Heap.get?_push_of_some _ q
  show wpAny (model X.prog X.w) X.A (subscriptTail e (.Slice none none (some (.UnaryOp .USub (.Constant (.int 1) k p1) p2)) p3) v (.ref s4.heap.objs.size)) (EP X pins σ Q) X.xe { s4 with heap := s4.heap.push { cls := .type "slice", data := .fields #[vl, vu, vs] } }
  unfold revop at e1
  rcases deref_cases (S := S1) (d := d1) with ⟨xs, q, rfl⟩ | ⟨xs, q, hl⟩ | ⟨n1, n2⟩
  · simp only [q, Option.some.injEq] at e1
    subst e1
    simp only [RD] at ra
    obtain ⟨a1, ws, rfl, ht, rs⟩ := ra
    cases r1
    obtain ⟨its, r, ht', hz⟩ := I5.tuple (by rw [hK]; exact ht.sq)
    have hlen := r.length
    refine tail_any (ops := [.ref a1, .ref s4.heap.objs.size]) ht'.typeIs (PyProof.Rows.slot_tuple_getitem.lookup) ?_ (by with_unfolding_all rfl)
    refine getItem_tuple_rev ht' (Heap.IsSliceOf.new _ vl vu vs) pl pu ps ?_ (by rw [List.size_toArray]; omega)
    have hp : H4 ({ s4 with heap := s4.heap.push { cls := .type "slice", data := .fields #[vl, vu, vs] } } : Shared).heap.objs.size = none := I5.fresh
    refine ⟨.ref _, _, I5.laid (t' := s4.toks) (o := .tup ws.reverse) (fun b ob q => Heap.get?_push_of_some _ q) (Nat.le_refl _) ?_, rfl, kk ρ1 _ _ (sr1.ext_new hp) (sr1.new hp) (upd_tup sr1 hp rs.reverse)⟩
    exact ⟨by rw [List.length_reverse]; exact hz, _, r.reverse, IsTup.new _ _⟩
  · simp only [q, Option.some.injEq] at e1
    subst e1
    obtain ⟨a1, ws, rfl, hq, rs, z1, its, n, rv, ho⟩ := listOf_obj hK I5 sr1 ra hl
    cases r1
    have hlen := rv.length
    have hl' : ({ s4 with heap := s4.heap.push { cls := .type "slice", data := .fields #[vl, vu, vs] } } : Shared).heap.IsList a1 its.toArray := ⟨_, ho, rfl, _, rfl⟩
    refine tail_any (ops := [.ref a1, .ref s4.heap.objs.size]) hl'.typeIs (PySem.slot_list_getitem.lookup) ?_ (by with_unfolding_all rfl)
    refine wpAny_getItem_list_slice hl' (Heap.IsSliceOf.new _ vl vu vs) pl pu ps (by decide) ?_ (by rw [List.size_toArray]; omega)
    rw [PySem.W.krv_pick]
    have hp : H4 ({ s4 with heap := s4.heap.push { cls := .type "slice", data := .fields #[vl, vu, vs] } } : Shared).heap.objs.size = none := I5.fresh
    refine ⟨.ref _, _, I5.laid (t' := s4.toks) (o := .lst ws.reverse) (fun b ob q => Heap.get?_push_of_some _ q) (Nat.le_refl _) ?_, rfl, kk ρ1 _ _ (sr1.ext_new hp) (sr1.new hp) (upd_list sr1 hp rs.reverse)⟩
    exact ⟨by rw [List.length_reverse]; exact z1, _, 0, rv.reverse, Heap.get?_push_size _ rfl⟩
  · cases q : deref S1 d1 with
    | tup xs => exact absurd q (n1 xs)
    | list xs => exact absurd q (n2 xs)
    | _ => simp [q] at e1
end
end Mi
set_option Elab.async false
set_option linter.all false
set_option maxHeartbeats 1000000
namespace Mi
open PySem PySem.Spec PyProof.Rows L2
/-- what a built-in function is to give -/
def rB (L : Lk) (b : BFn) : List V → Hp → VK → Prop := fun vs H Q => ∃ ρ S ds d, SR L ρ S H ∧ RDs L ρ H ds vs ∧ bfn b S ds = some d ∧ ∀ ρ' H' v, Ext ρ H ρ' H' → SR L ρ' S H' → RD L ρ' H' d v → Q v H'
section
variable {L : Lk} {ρ : Rho} {H : Hp} {S : Store}
theorem RDs.one {d : D} {vs : List V} (h : RDs L ρ H [d] vs) : ∃ v, vs = [v] ∧ RD L ρ H d v := by
  simp only [RDs] at h
  obtain ⟨v, ws, rfl, r, rfl⟩ := h
  exact ⟨v, rfl, r⟩
theorem RDs.two {d e : D} {vs : List V} (h : RDs L ρ H [d, e] vs) : ∃ v w, vs = [v, w] ∧ RD L ρ H d v ∧ RD L ρ H e w := by
  simp only [RDs] at h
  obtain ⟨v, ws, rfl, r, w, us, rfl, r2, rfl⟩ := h
  exact ⟨v, w, rfl, r, r2⟩
theorem RDs.zero {vs : List V} (h : RDs L ρ H [] vs) : vs = [] := by simpa only [RDs] using h
theorem ints_rd : ∀ {ds : List D} {ns : List Int} {vs : List V}, intsOf ds = some ns → RDs L ρ H ds vs → vs = ns.map V.int
  | [], ns, vs, e, r => by
    simp only [intsOf, Option.some.injEq] at e
    simp only [RDs] at r
    subst e r
    rfl
  | d :: ds, ns, vs, e, r => by
    simp only [RDs] at r
    obtain ⟨v, ws, rfl, r1, rs⟩ := r
    cases d with
    | int i =>
      simp only [intsOf, Option.map_eq_some_iff] at e
      obtain ⟨ms, e, rfl⟩ := e
      simp only [RD_int] at r1
      rw [r1, ints_rd e rs]
      rfl
    | _ => simp [intsOf] at e
theorem bools_rd : ∀ {ds : List D} {ns : List Bool} {vs : List V}, boolsOf ds = some ns → RDs L ρ H ds vs → vs = ns.map V.bl
  | [], ns, vs, e, r => by
    simp only [boolsOf, Option.some.injEq] at e
    simp only [RDs] at r
    subst e r
    rfl
  | d :: ds, ns, vs, e, r => by
    simp only [RDs] at r
    obtain ⟨v, ws, rfl, r1, rs⟩ := r
    cases d with
    | bool i =>
      simp only [boolsOf, Option.map_eq_some_iff] at e
      obtain ⟨ms, e, rfl⟩ := e
      simp only [RD_bool] at r1
      rw [r1, bools_rd e rs]
      rfl
    | _ => simp [boolsOf] at e
theorem strs_rd : ∀ {ds : List D} {ns : List Str} {vs : List V}, strsOf ds = some ns → RDs L ρ H ds vs → vs = ns.map V.str
  | [], ns, vs, e, r => by
    simp only [strsOf, Option.some.injEq] at e
    simp only [RDs] at r
    subst e r
    rfl
  | d :: ds, ns, vs, e, r => by
    simp only [RDs] at r
    obtain ⟨v, ws, rfl, r1, rs⟩ := r
    cases d with
    | str i =>
      simp only [strsOf, Option.map_eq_some_iff] at e
      obtain ⟨ms, e, rfl⟩ := e
      simp only [RD_str] at r1
      rw [r1, strs_rd e rs]
      rfl
    | _ => simp [strsOf] at e
theorem maxI_spec : ∀ (r : List Int) (x m : Int), r.foldl (fun m y => if m < y then y else m) x = m → (m = x ∨ m ∈ r) ∧ x ≤ m ∧ ∀ y ∈ r, y ≤ m
  | [], x, m, h => by subst h; simp
  | z :: r, x, m, h => by
    simp only [List.foldl_cons] at h
    obtain ⟨h1, h2, h3⟩ := maxI_spec r _ m h
    by_cases q : x < z
    · rw [if_pos q] at h1 h2
      refine ⟨.inr ?_, by omega, ?_⟩
      · rcases h1 with rfl | h1
        · simp
        · exact List.mem_cons_of_mem _ h1
      · intro y hy
        rcases List.mem_cons.mp hy with rfl | hy
        · exact h2
        · exact h3 y hy
    · rw [if_neg q] at h1 h2
      refine ⟨?_, h2, ?_⟩
      · rcases h1 with h1 | h1
        · exact .inl h1
        · exact .inr (List.mem_cons_of_mem _ h1)
      · intro y hy
        rcases List.mem_cons.mp hy with rfl | hy
        · omega
        · exact h3 y hy
theorem minI_spec : ∀ (r : List Int) (x m : Int), r.foldl (fun m y => if y < m then y else m) x = m → (m = x ∨ m ∈ r) ∧ m ≤ x ∧ ∀ y ∈ r, m ≤ y
  | [], x, m, h => by subst h; simp
  | z :: r, x, m, h => by
    simp only [List.foldl_cons] at h
    obtain ⟨h1, h2, h3⟩ := minI_spec r _ m h
    by_cases q : z < x
    · rw [if_pos q] at h1 h2
      refine ⟨.inr ?_, by omega, ?_⟩
      · rcases h1 with rfl | h1
        · simp
        · exact List.mem_cons_of_mem _ h1
      · intro y hy
        rcases List.mem_cons.mp hy with rfl | hy
        · exact h2
        · exact h3 y hy
    · rw [if_neg q] at h1 h2
      refine ⟨?_, h2, ?_⟩
      · rcases h1 with h1 | h1
        · exact .inl h1
        · exact .inr (List.mem_cons_of_mem _ h1)
      · intro y hy
        rcases List.mem_cons.mp hy with rfl | hy
        · omega
        · exact h3 y hy
theorem maxI_of {l : List Int} {m : Int} (h : maxI l = some m) : m ∈ l ∧ (∀ y ∈ l, y ≤ m) ∧ 0 < l.length := by
  cases l with
  | nil => cases h
  | cons x r =>
    simp only [maxI, Option.some.injEq] at h
    obtain ⟨h1, h2, h3⟩ := maxI_spec r x m h
    refine ⟨List.mem_cons.mpr h1, fun y hy => ?_, by simp⟩
    rcases List.mem_cons.mp hy with rfl | hy
    · exact h2
    · exact h3 y hy
theorem minI_of {l : List Int} {m : Int} (h : minI l = some m) : m ∈ l ∧ (∀ y ∈ l, m ≤ y) ∧ 0 < l.length := by
  cases l with
  | nil => cases h
  | cons x r =>
    simp only [minI, Option.some.injEq] at h
    obtain ⟨h1, h2, h3⟩ := minI_spec r x m h
    refine ⟨List.mem_cons.mpr h1, fun y hy => ?_, by simp⟩
    rcases List.mem_cons.mp hy with rfl | hy
    · exact h2
    · exact h3 y hy
end
section
variable {X : Cx} {L : Lk}
theorem bm_len (hK : X.K = L.K) : CallR X (.builtin "len") (rB L .len) := by
  intro pins s σ H xs us Q I r h
  obtain ⟨ρ, S, ds, d, sr, rs, e, k⟩ := h
  cases ds with
  | nil => simp [bfn] at e
  | cons x t =>
    cases t with
    | cons y t => simp [bfn] at e
    | nil =>
      obtain ⟨v, rfl, r1⟩ := rs.one
      have seq : (match seqOf S x with
        | some xs => some (D.int xs.length)
        | none => none) = some d → wpAny (model X.prog X.w) X.A (call (.builtin "len") us) (EP X pins σ Q) X.xe s := by
        intro e
        cases q : seqOf S x with
        | none => rw [q] at e; cases e
        | some xs =>
          rw [q] at e
          cases e
          obtain ⟨a1, vs, rfl, hq, rs, z1⟩ := seqOf_sq hK I sr r1 q
          exact call_len_seq pins s σ H _ us Q I r ⟨a1, vs, rfl, by rw [hK]; exact hq, k ρ H _ (.refl _ _) sr (by rw [rs.length]; simp)⟩
      cases x with
      | str z =>
        simp only [bfn] at e
        by_cases hz : z.length ≤ line
        · rw [if_pos hz] at e
          cases e
          simp only [RD_str] at r1
          subst r1
          exact call_len_str pins s σ H _ us Q I r ⟨z, rfl, hz, k ρ H _ (.refl _ _) sr (by simp)⟩
        · rw [if_neg hz] at e; cases e
      | _ => exact seq e
theorem bm_list (hK : X.K = L.K) : CallR X (.type "list") (rB L .list) := by
  intro pins s σ H xs us Q I r h
  obtain ⟨ρ, S, ds, d, sr, rs, e, k⟩ := h
  cases ds with
  | nil => simp [bfn] at e
  | cons x t =>
    cases t with
    | cons y t => simp [bfn] at e
    | nil =>
      obtain ⟨v, rfl, r1⟩ := rs.one
      simp only [bfn, Option.map_eq_some_iff] at e
      obtain ⟨xs, q, rfl⟩ := e
      obtain ⟨a1, vs, rfl, hq, rs, z1⟩ := seqOf_sq hK I sr r1 q
      exact call_list_of pins s σ H _ us Q I r ⟨a1, vs, rfl, by rw [hK]; exact hq, fun p hp => k ρ _ _ (sr.ext_new hp) (sr.new hp) (upd_list sr hp rs)⟩
theorem bm_tuple (hK : X.K = L.K) : CallR X (.type "tuple") (rB L .tuple) := by
  intro pins s σ H xs us Q I r h
  obtain ⟨ρ, S, ds, d, sr, rs, e, k⟩ := h
  cases ds with
  | nil => simp [bfn] at e
  | cons x t =>
    cases t with
    | cons y t => simp [bfn] at e
    | nil =>
      obtain ⟨v, rfl, r1⟩ := rs.one
      simp only [bfn, Option.map_eq_some_iff] at e
      obtain ⟨xs, q, rfl⟩ := e
      rcases seq_cases q with hl | rfl
      · obtain ⟨a1, vs, rfl, hq, rs, z1, _⟩ := listOf_obj hK I sr r1 hl
        exact call_tuple_of pins s σ H _ us Q I r ⟨a1, vs, rfl, .inl ⟨by rw [hK]; exact hq, fun p hp => k ρ _ _ (sr.ext_new hp) (sr.new hp) (upd_tup sr hp rs)⟩⟩
      · have r1' := r1
        simp only [RD] at r1
        obtain ⟨a1, vs, rfl, ht, rs⟩ := r1
        exact call_tuple_of pins s σ H _ us Q I r ⟨a1, vs, rfl, .inr ⟨by rw [hK]; exact ht.sq, k ρ H _ (.refl _ _) sr r1'⟩⟩
theorem bfn2 {b : BFn} {S : Store} {ds : List D} {d : D} (hb : b = .max2 ∨ b = .min2) (h : bfn b S ds = some d) : ∃ x y, ds = [.int x, .int y] ∧ d = .int (if b = .max2 then (if y > x then y else x) else (if y < x then y else x)) := by
  rcases hb with rfl | rfl
  all_goals
    rcases ds with _ | ⟨x, _ | ⟨y, _ | ⟨z, t⟩⟩⟩
    · simp [bfn] at h
    · cases x <;> simp [bfn] at h
    · cases x <;> cases y <;> simp [bfn] at h
      subst h
      exact ⟨_, _, rfl, by simp⟩
    · cases x <;> cases y <;> simp [bfn] at h
theorem bm_max2 (hc : X.calm = true) : CallR X (.builtin "max") (rB L .max2) := by
  intro pins s σ H xs us Q I r h
  obtain ⟨ρ, S, ds, d, sr, rs, e, k⟩ := h
  obtain ⟨x, y, rfl, rfl⟩ := bfn2 (.inl rfl) e
  obtain ⟨v, w, rfl, r1, r2⟩ := rs.two
  simp only [RD_int] at r1 r2
  subst r1 r2
  exact call_max2 hc pins s σ H _ us Q I r ⟨x, y, rfl, k ρ H _ (.refl _ _) sr (by simp)⟩
theorem bm_min2 (hc : X.calm = true) : CallR X (.builtin "min") (rB L .min2) := by
  intro pins s σ H xs us Q I r h
  obtain ⟨ρ, S, ds, d, sr, rs, e, k⟩ := h
  obtain ⟨x, y, rfl, rfl⟩ := bfn2 (.inr rfl) e
  obtain ⟨v, w, rfl, r1, r2⟩ := rs.two
  simp only [RD_int] at r1 r2
  subst r1 r2
  exact call_min2 hc pins s σ H _ us Q I r ⟨x, y, rfl, k ρ H _ (.refl _ _) sr (by simp)⟩
theorem bfn1 {b : BFn} {S : Store} {ds : List D} {d : D} {f : D → Option D} (hb : ∀ x, bfn b S [x] = f x) (h0 : bfn b S [] = none) (h2 : ∀ x y t, bfn b S (x :: y :: t) = none) (h : bfn b S ds = some d) : ∃ x, ds = [x] ∧ f x = some d := by
  rcases ds with _ | ⟨x, _ | ⟨y, t⟩⟩
  · rw [h0] at h; cases h
  · rw [hb] at h; exact ⟨x, rfl, h⟩
  · rw [h2] at h; cases h
theorem ints_at (hK : X.K = L.K) {pins : List (Addr × Obj)} {σ : L2.St} {ρ : Rho} {H : Hp} {S : Store} {s : Shared} (I : Inv X pins σ H s) (sr : SR L ρ S H) {x : D} {v : V} {l : List Int} (r : RD L ρ H x v) (h : (listOf S x).bind intsOf = some l) : ∃ a, v = .ref a ∧ SqL X.K H a (l.map V.int) := by
  simp only [Option.bind_eq_some_iff] at h
  obtain ⟨xs, h1, h2⟩ := h
  obtain ⟨a1, vs, rfl, hq, rs, z1, _⟩ := listOf_obj hK I sr r h1
  rw [ints_rd h2 rs] at hq
  exact ⟨a1, rfl, by rw [hK]; exact hq⟩
theorem bm_max1 (hK : X.K = L.K) (hc : X.calm = true) (hu : X.A.units + 65 < cLine) : CallR X (.builtin "max") (rB L .max1) := by
  intro pins s σ H xs us Q I r h
  obtain ⟨ρ, S, ds, d, sr, rs, e, k⟩ := h
  by_cases hp : ∃ a b : Int, ds = [.tup [.int a, .int b]]
  · obtain ⟨a, b, rfl⟩ := hp
    have e : some (D.int (if b > a then b else a)) = some d := e
    cases e
    obtain ⟨v, rfl, r1⟩ := rs.one
    simp only [RD] at r1
    obtain ⟨p, vs, rfl, t, rs2⟩ := r1
    obtain ⟨u, rfl, ru⟩ := vals1 r
    cases ru
    obtain ⟨its, rv, hl, hz⟩ := I.tuple (by rw [hK]; exact t.sq)
    have hd := dps_of _ vs [.int a, .int b] rs2 (by simp [pyds, pyd]) rfl
    obtain ⟨as, rd⟩ := Dp.readsAll I [.int a, .int b] vs its (by rw [hK]; exact hd) rv
    refine PySem.W.max_tuple_data (I.ok.hd hc) hl (x := .int a) (xs := [.int b]) (by simpa using rd) ⟨fun x hx y hy => by
      simp only [List.mem_cons, List.not_mem_nil, or_false] at hx hy
      rcases hx with rfl | rfl <;> rcases hy with rfl | rfl <;> rfl, fun x hx => by
      simp only [List.mem_cons, List.not_mem_nil, or_false] at hx
      rcases hx with rfl | rfl <;> simp⟩ (by simp [PyData.depthAll, PyData.depth]; omega) fun i v h' tk bs hv hr hk => ?_
    have em : PySem.W.maxD (.int a) [.int b] = .int (if b > a then b else a) := by
      unfold PySem.W.maxD
      simp only [List.foldl_cons, List.foldl_nil, PySem.W.dataLt_int]
      by_cases c : b > a
      · simp [c]
      · simp [c]
    rw [em] at hr
    cases hr
    exact ⟨.int _, H, I.kept hk, ⟨_, rfl⟩, k ρ H _ (.refl _ _) sr (by simp)⟩
  · obtain ⟨x, ex, e9⟩ := bfn1 (f := fun x => bfn .max1 S [x]) (fun x => rfl) (by simp [bfn]) (fun x y t => by simp [bfn]) e
    subst ex
    have e : (((((listOf S x).bind intsOf).bind maxI).map .int)) = some d := by
      rw [← e9]
      refine (?_ : bfn .max1 S [x] = _).symm
      cases x with
      | tup xs =>
        match xs, hp with
        | [], _ => rfl
        | [u], _ => cases u <;> rfl
        | [u, v], hp => cases u <;> first | rfl | (cases v <;> first | rfl | exact absurd ⟨_, _, rfl⟩ hp)
        | u :: v :: w :: r, _ => cases u <;> first | rfl | (cases v <;> rfl)
      | _ => rfl
    clear e9
    obtain ⟨v, rfl, r1⟩ := rs.one
    simp only [Option.map_eq_some_iff] at e
    obtain ⟨m, e8, em⟩ := e
    subst em
    obtain ⟨l, e1, e2⟩ := Option.bind_eq_some_iff.mp e8
    obtain ⟨a, rfl, hq⟩ := ints_at hK I sr r1 e1
    obtain ⟨h1, h2, h3⟩ := maxI_of e2
    exact cr_max hc pins s σ H _ us Q I r ⟨a, l, rfl, hq, h3, fun m' g1 g2 => by
      have : m' = m := Int.le_antisymm (h2 _ g1) (g2 _ h1)
      subst this
      exact k ρ H _ (.refl _ _) sr (by simp)⟩
theorem bm_min1 (hK : X.K = L.K) (hc : X.calm = true) (hu : X.A.units + 65 < cLine) : CallR X (.builtin "min") (rB L .min1) := by
  intro pins s σ H xs us Q I r h
  obtain ⟨ρ, S, ds, d, sr, rs, e, k⟩ := h
  by_cases hp : ∃ a b : Int, ds = [.tup [.int a, .int b]]
  · obtain ⟨a, b, rfl⟩ := hp
    have e : some (D.int (if b < a then b else a)) = some d := e
    cases e
    obtain ⟨v, rfl, r1⟩ := rs.one
    simp only [RD] at r1
    obtain ⟨p, vs, rfl, t, rs2⟩ := r1
    obtain ⟨u, rfl, ru⟩ := vals1 r
    cases ru
    obtain ⟨its, rv, hl, hz⟩ := I.tuple (by rw [hK]; exact t.sq)
    have hd := dps_of _ vs [.int a, .int b] rs2 (by simp [pyds, pyd]) rfl
    obtain ⟨as, rd⟩ := Dp.readsAll I [.int a, .int b] vs its (by rw [hK]; exact hd) rv
    refine PySem.W.min_tuple_data (I.ok.hd hc) hl (x := .int a) (xs := [.int b]) (by simpa using rd) ⟨fun x hx y hy => by
      simp only [List.mem_cons, List.not_mem_nil, or_false] at hx hy
      rcases hx with rfl | rfl <;> rcases hy with rfl | rfl <;> rfl, fun x hx => by
      simp only [List.mem_cons, List.not_mem_nil, or_false] at hx
      rcases hx with rfl | rfl <;> simp⟩ (by simp [PyData.depthAll, PyData.depth]; omega) fun i v h' tk bs hv hr hk => ?_
    have em : PySem.W.minD (.int a) [.int b] = .int (if b < a then b else a) := by
      unfold PySem.W.minD
      simp only [List.foldl_cons, List.foldl_nil, PySem.W.dataLt_int]
      by_cases c : b < a
      · simp [c]
      · simp [c]
    rw [em] at hr
    cases hr
    exact ⟨.int _, H, I.kept hk, ⟨_, rfl⟩, k ρ H _ (.refl _ _) sr (by simp)⟩
  · obtain ⟨x, ex, e9⟩ := bfn1 (f := fun x => bfn .min1 S [x]) (fun x => rfl) (by simp [bfn]) (fun x y t => by simp [bfn]) e
    subst ex
    have e : (((((listOf S x).bind intsOf).bind minI).map .int)) = some d := by
      rw [← e9]
      refine (?_ : bfn .min1 S [x] = _).symm
      cases x with
      | tup xs =>
        match xs, hp with
        | [], _ => rfl
        | [u], _ => cases u <;> rfl
        | [u, v], hp => cases u <;> first | rfl | (cases v <;> first | rfl | exact absurd ⟨_, _, rfl⟩ hp)
        | u :: v :: w :: r, _ => cases u <;> first | rfl | (cases v <;> rfl)
      | _ => rfl
    clear e9
    obtain ⟨v, rfl, r1⟩ := rs.one
    simp only [Option.map_eq_some_iff] at e
    obtain ⟨m, e8, em⟩ := e
    subst em
    obtain ⟨l, e1, e2⟩ := Option.bind_eq_some_iff.mp e8
    obtain ⟨a, rfl, hq⟩ := ints_at hK I sr r1 e1
    obtain ⟨h1, h2, h3⟩ := minI_of e2
    exact cr_min hc pins s σ H _ us Q I r ⟨a, l, rfl, hq, h3, fun m' g1 g2 => by
      have : m' = m := Int.le_antisymm (g2 _ h1) (h2 _ g1)
      subst this
      exact k ρ H _ (.refl _ _) sr (by simp)⟩
theorem bm_sum (hK : X.K = L.K) (hc : X.calm = true) : CallR X (.builtin "sum") (rB L .sum) := by
  intro pins s σ H xs us Q I r h
  obtain ⟨ρ, S, ds, d, sr, rs, e, k⟩ := h
  obtain ⟨x, ex, e9⟩ := bfn1 (f := fun x => (((listOf S x).bind intsOf).map fun l => .int l.sum)) (fun x => by simp [bfn]) (by simp [bfn]) (fun x y t => by simp [bfn]) e
  subst ex
  have e := e9
  clear e9
  obtain ⟨v, rfl, r1⟩ := rs.one
  simp only [Option.map_eq_some_iff] at e
  obtain ⟨l, e1, rfl⟩ := e
  obtain ⟨a, rfl, hq⟩ := ints_at hK I sr r1 e1
  exact cr_sum hc pins s σ H _ us Q I r ⟨a, l, rfl, hq, k ρ H _ (.refl _ _) sr (by simp)⟩
theorem bools_at (hK : X.K = L.K) {pins : List (Addr × Obj)} {σ : L2.St} {ρ : Rho} {H : Hp} {S : Store} {s : Shared} (I : Inv X pins σ H s) (sr : SR L ρ S H) {x : D} {v : V} {l : List Bool} {xs : List D} (r : RD L ρ H x v) (h1 : listOf S x = some xs) (h2 : boolsOf xs = some l) : ∃ a, v = .ref a ∧ SqL X.K H a (l.map V.bl) := by
  obtain ⟨a1, vs, rfl, hq, rs, z1, _⟩ := listOf_obj hK I sr r h1
  rw [bools_rd h2 rs] at hq
  exact ⟨a1, rfl, by rw [hK]; exact hq⟩
theorem bm_any (hK : X.K = L.K) (hc : X.calm = true) : CallR X (.builtin "any") (rB L .any) := by
  intro pins s σ H xs us Q I r h
  obtain ⟨ρ, S, ds, d, sr, rs, e, k⟩ := h
  obtain ⟨x, ex, e9⟩ := bfn1 (f := fun x => (((listOf S x).bind anyI).map .bool)) (fun x => by simp [bfn]) (by simp [bfn]) (fun x y t => by simp [bfn]) e
  subst ex
  have e := e9
  clear e9
  obtain ⟨v, rfl, r1⟩ := rs.one
  simp only [Option.map_eq_some_iff, Option.bind_eq_some_iff, anyI] at e
  obtain ⟨z, ⟨xs, e1, bs, e2, rfl⟩, rfl⟩ := e
  obtain ⟨a, rfl, hq⟩ := bools_at hK I sr r1 e1 e2
  exact cr_any hc pins s σ H _ us Q I r ⟨a, bs, rfl, hq, k ρ H _ (.refl _ _) sr (by simp)⟩
theorem bm_all (hK : X.K = L.K) (hc : X.calm = true) : CallR X (.builtin "all") (rB L .all) := by
  intro pins s σ H xs us Q I r h
  obtain ⟨ρ, S, ds, d, sr, rs, e, k⟩ := h
  obtain ⟨x, ex, e9⟩ := bfn1 (f := fun x => (((listOf S x).bind allI).map .bool)) (fun x => by simp [bfn]) (by simp [bfn]) (fun x y t => by simp [bfn]) e
  subst ex
  have e := e9
  clear e9
  obtain ⟨v, rfl, r1⟩ := rs.one
  simp only [Option.map_eq_some_iff, Option.bind_eq_some_iff, allI] at e
  obtain ⟨z, ⟨xs, e1, bs, e2, rfl⟩, rfl⟩ := e
  obtain ⟨a, rfl, hq⟩ := bools_at hK I sr r1 e1 e2
  exact cr_all hc pins s σ H _ us Q I r ⟨a, bs, rfl, hq, k ρ H _ (.refl _ _) sr (by simp)⟩
theorem bm_abs : CallR X (.builtin "abs") (rB L .abs) := by
  intro pins s σ H xs us Q I r h
  obtain ⟨ρ, S, ds, d, sr, rs, e, k⟩ := h
  obtain ⟨i, rfl, rfl⟩ : ∃ i, ds = [.int i] ∧ d = .int (if i < 0 then -i else i) := by
    rcases ds with _ | ⟨x, _ | ⟨y, t⟩⟩
    · simp [bfn] at e
    · cases x <;> simp [bfn] at e
      exact ⟨_, rfl, e.symm⟩
    · cases x <;> simp [bfn] at e
  obtain ⟨v, rfl, r1⟩ := rs.one
  simp only [RD_int] at r1
  subst r1
  exact call_abs pins s σ H _ us Q I r ⟨i, rfl, k ρ H _ (.refl _ _) sr (by simp)⟩
theorem bm_int : CallR X (.type "int") (rB L .int) := by
  intro pins s σ H xs us Q I r h
  obtain ⟨ρ, S, ds, d, sr, rs, e, k⟩ := h
  rcases ds with _ | ⟨x, _ | ⟨y, t⟩⟩
  · simp [bfn] at e
  · obtain ⟨v, rfl, r1⟩ := rs.one
    cases x <;> simp [bfn] at e
    · subst e
      simp only [RD_bool] at r1
      subst r1
      exact call_int1 pins s σ H _ us Q I r (.inr ⟨_, rfl, k ρ H _ (.refl _ _) sr (by simp)⟩)
    · subst e
      simp only [RD_int] at r1
      subst r1
      exact call_int1 pins s σ H _ us Q I r (.inl ⟨_, rfl, k ρ H _ (.refl _ _) sr (by simp)⟩)
  · cases x <;> simp [bfn] at e
theorem bm_str : CallR X (.type "str") (rB L .str) := by
  intro pins s σ H xs us Q I r h
  obtain ⟨ρ, S, ds, d, sr, rs, e, k⟩ := h
  obtain ⟨i, rfl, hz, rfl⟩ : ∃ i : Int, ds = [.int i] ∧ i.natAbs.log2 < 1920 ∧ d = .str (toString i) := by
    rcases ds with _ | ⟨x, _ | ⟨y, t⟩⟩
    · simp [bfn] at e
    · cases x <;> simp [bfn] at e
      exact ⟨_, rfl, e.1, e.2.symm⟩
    · cases x <;> simp [bfn] at e
  obtain ⟨v, rfl, r1⟩ := rs.one
  simp only [RD_int] at r1
  subst r1
  exact call_str_int pins s σ H _ us Q I r ⟨i, rfl, hz, k ρ H _ (.refl _ _) sr (by simp)⟩
end
end Mi
set_option Elab.async false
set_option linter.all false
set_option maxHeartbeats 1000000
namespace Mi
open PySem PySem.Spec PyProof.Rows L2
section
variable {X : Cx} {L : Lk} {pins : List (Addr × Obj)} {σ : L2.St} {ρ : Rho} {H : Hp} {S : Store} {s : Shared}
/-- an item of the host's list stands for a value -/
def Stands (L : Lk) (ρ : Rho) (H : Hp) (u : Value) (d : D) : Prop := ∃ v, RelV v u ∧ RD L ρ H d v
theorem stands_of : ∀ {ds : List D} {vs : List V} {us : List Value}, RDs L ρ H ds vs → Vals vs us → PySem.W.EachIs (Stands L ρ H) us ds
  | [], vs, us, r, q => by
    simp only [RDs] at r
    subst r
    cases q
    exact .nil
  | d :: ds, vs, us, r, q => by
    simp only [RDs] at r
    obtain ⟨v, ws, rfl, r1, rs⟩ := r
    cases q with
    | cons q1 qs => exact .cons ⟨v, q1, r1⟩ (stands_of rs qs)
theorem stands_to : ∀ {ds : List D} {us : List Value}, PySem.W.EachIs (Stands L ρ H) us ds → ∃ vs, Vals vs us ∧ RDs L ρ H ds vs
  | _, _, .nil => ⟨[], .nil, .nil⟩
  | _, _, .cons ⟨v, q, r⟩ t => by
    obtain ⟨vs, h1, h2⟩ := stands_to t
    exact ⟨v :: vs, .cons q h1, .cons r h2⟩
theorem reads_each (hK : X.K = L.K) (I : Inv X pins σ H s) : ∀ {ds : List D} {us : List Value}, PySem.W.EachIs (Stands L ρ H) us ds → (∀ x ∈ ds, ∃ p, pyd x = some p ∧ p.canLay0 = true) → PySem.W.EachIs (fun u d => ∃ as, Reads s.heap u (encD d) as) us ds
  | _, _, .nil, _ => .nil
  | _, _, .cons ⟨v, q, r⟩ t, h => by
    refine .cons ?_ (reads_each hK I t fun x hx => h x (List.mem_cons_of_mem _ hx))
    obtain ⟨p, e, c⟩ := h _ (List.mem_cons_self ..)
    unfold encD
    rw [e]
    exact Dp.reads I p v _ (by rw [hK]; exact dp_of _ v p r e c) q
/-- collect on a tuple -/
theorem collect_tupX {prog : Program} {w : World} {A : Around} {E : Value → Shared → Prop} {s : Shared} {l : Addr} {vs : List Value} {Q : List Value → Shared → Prop} (hl : s.heap.IsTuple l vs.toArray)
    (h : Q vs { s with heap := (s.heap.push (seqObj "list" #[] 0)).update s.heap.objs.size (Obj.mapSeq (· ++ vs.toArray)) }) (hsz : vs.length ≤ sizeLine) :
    wpAny (model prog w) A (collect (.ref l)) Q E s := by
  obtain ⟨o, ho, hc, n, hd⟩ := id hl
  unfold collect
  refine wpAny_bind (wpAny_runValue (codeAny_builtin PyProof.Rows.entry_proto_collect' ?_))
  show wpAny _ _ (do again (.builtin "list.__iadd__" ⟨[← newList [], .ref l], []⟩)) _ _ s
  refine wpAny_bind (wpAny_newList (wpAny_pure ⟨Code.quiet_builtin _ (by decide +kernel), codeAny_builtin PyProof.Rows.entry_list_iadd' ?_⟩))
  show wpAny _ _ (Builtin.List.listExtendWith (.ref s.heap.objs.size) (.ref l) (.ref s.heap.objs.size)) _ _ { s with heap := s.heap.push (seqObj "list" #[] 0) }
  unfold Builtin.List.listExtendWith
  have ho' : (s.heap.push (seqObj "list" #[] 0)).get? l = some o := Heap.get?_push_of_some _ ho
  refine wpAny_bind (wpAny_typeOf (T := "tuple") ⟨o, ho', hc⟩ ?_)
  have ht : (Value.type "tuple" == Value.type "tuple") = true := by rfl
  rw [if_pos (by rw [ht]; simp)]
  refine wpAny_bind (PyProof.Rows.listItems_at ho' hd ?_)
  refine wpAny_bind (PyProof.Rows.listItems_at (xs := #[]) (n := 0) (Heap.get?_push_size _ rfl) rfl ?_)
  rw [if_neg (by simp)]
  refine wpAny_bind (PyProof.Rows.listUpdate_at (xs := #[]) (n := 0) (Heap.get?_push_size _ rfl) rfl ?_ (Nat.zero_le _) (by show (#[] ++ vs.toArray).size ≤ sizeLine + 1; simp only [Array.size_append, List.size_toArray, List.length_nil]; omega))
  refine wpAny_pure ?_
  show wpAny (model prog w) A (do
      let o ← load s.heap.objs.size
      match o.data with
      | .seq xs _ => pure xs.toList
      | _ => unsupported "internal:collect") Q E { s with heap := (s.heap.push (seqObj "list" #[] 0)).update s.heap.objs.size (Obj.mapSeq (· ++ vs.toArray)) }
  refine wpAny_bind (wpAny_load (PyProof.Rows.get?_update_seq (Heap.get?_push_size _ rfl) _) ?_)
  show wpAny _ _ (pure ((#[] : Array Value) ++ vs.toArray).toList) Q E _
  rw [show ((#[] : Array Value) ++ vs.toArray).toList = vs by simp]
  exact wpAny_pure h
/-- sorted on a tuple is list.sort on a new list of its items -/
theorem sortedT_of_sort {prog : Program} {w : World} {A : Around} {E : Value → Shared → Prop} {s : Shared} {l : Addr} {vs : List Value} {Q : Value → Shared → Prop} (hl : s.heap.IsTuple l vs.toArray) (hL : vs.length ≤ sizeLine)
    (body : ∀ E' : Value → Shared → Prop, wpAny (model prog w) A.in1.in1 (Builtin.«list.sort» ⟨[.ref (s.heap.objs.size + 1)], []⟩) (fun f s' => f = .done (.ret .none) ∧ Q (.ref (s.heap.objs.size + 1)) s') E' { s with heap := PySem.W.copyHeap s.heap vs }) :
    wpAny (model prog w) A (call (.builtin "sorted") [.ref l]) Q E s := by
  refine PySem.Calls.call_function_entry PyProof.Rows.kind_sorted PyProof.Rows.plain_sorted PyProof.Rows.entry_sorted (PyProof.Rows.args_sorted1 _) ?_
  unfold Builtin.«sorted»
  refine wpAny_bind (m := checkCount "sorted" 1 1 _) (wpAny_pure ?_)
  refine wpAny_bind (collect_tupX hl ?_ hL)
  refine wpAny_bind (wpAny_newList ?_ hL)
  have hsz : ((s.heap.push (seqObj "list" #[] 0)).update s.heap.objs.size (Obj.mapSeq (· ++ vs.toArray))).objs.size = s.heap.objs.size + 1 := by
    rw [Heap.size_update, PyProof.Rows.size_push']
  show wpAny _ _ _ _ _ { s with heap := PySem.W.copyHeap s.heap vs }
  rw [hsz]
  refine wpAny_bind (wpAny_holding (wpAny_call_entry PyProof.Rows.slot_list_sort ⟨_, PySem.W.copyHeap_at s.heap vs, rfl⟩ PyProof.Rows.entry_list_sort ?body (PyProof.Rows.args_list_sort _)))
  case body =>
    show wpAny (model prog w) A.in1.in1 (Builtin.«list.sort» ⟨[.ref (s.heap.objs.size + 1)], []⟩) _ _ _
    refine wpAny_mono (body _) (fun f s' hf => ?_) fun _ _ e => e
    obtain ⟨rfl, hq⟩ := hf
    exact ⟨_, rfl, wpAny_pure ⟨_, rfl, hq⟩⟩
theorem sortedT_data {prog : Program} {w : World} {A : Around} {E : Value → Shared → Prop} {s : Shared} {β : Type} {vs : List Value} {bs : List β} {enc : β → PyData} {R : Value → β → Prop} {l : Addr} {Q : Value → Shared → Prop} (hl : s.heap.IsTuple l vs.toArray) (e : PySem.W.EachIs R vs bs) (er : PySem.W.EachIs (fun v b => ∃ as, Reads s.heap v (enc b) as) vs bs) (hal : PySem.W.AllAlike (bs.map enc)) (hk : PySem.W.Sortable (bs.map enc)) (hL : bs.length ≤ sizeLine)
    (hu : ∀ b, b ∈ bs → A.units + 2 + (enc b).depth < cLine) (h : ∀ out, out.length = bs.length → PySem.W.EachIs R out (bs.mergeSort (PySem.W.dataLe false enc)) → Q (.ref (s.heap.objs.size + 1)) { s with heap := PyProof.Rows.sortedAll s.heap vs (List.toArray out) }) :
    wpAny (model prog w) A (call (.builtin "sorted") [.ref l]) Q E s := by
  have er' : PySem.W.EachIs (fun v b => ∃ as, Reads (PySem.W.sortingHeap (PySem.W.copyHeap s.heap vs) (s.heap.objs.size + 1) vs) v (enc b) as) vs bs := er.mono fun _ _ ⟨as, r⟩ => ⟨as, PyProof.Rows.Reads.keeps (fun _ _ => PySem.W.sorting_copy_old) r⟩
  exact sortedT_of_sort hl (by rw [e.length]; exact hL) fun _ => PySem.W.list_sort_vals (s := { s with heap := PySem.W.copyHeap s.heap vs }) (PySem.W.copyHeap_at s.heap vs) (PySem.W.SortsAt.data (s := { s with heap := PySem.W.sortingHeap (PySem.W.copyHeap s.heap vs) (s.heap.objs.size + 1) vs }) (PySem.W.each_map (R := fun v d => ∃ as, Reads (PySem.W.sortingHeap (PySem.W.copyHeap s.heap vs) (s.heap.objs.size + 1) vs) v d as) enc er') hal hk (PySem.W.bound_map hu)) (by rw [e.length]; exact hL)
    ⟨rfl, h _ (by rw [PySem.W.sortVals_length false rfl]; exact e.length) (PySem.W.sortVals_data false e er' hal)⟩
theorem bm_sorted (hK : X.K = L.K) (hu : X.A.units + 64 < cLine) : CallR X (.builtin "sorted") (rB L .sorted) := by
  intro pins s σ H xs us Q I r h
  obtain ⟨ρ, S, ds, d, sr, rs, e, k⟩ := h
  obtain ⟨x, ex, e9⟩ := bfn1 (f := fun x => (((seqOf S x).bind (sortedD false)).map .list)) (fun x => by simp [bfn]) (by simp [bfn]) (fun x y t => by simp [bfn]) e
  subst ex
  obtain ⟨v, rfl, r1⟩ := rs.one
  simp only [Option.map_eq_some_iff, Option.bind_eq_some_iff] at e9
  obtain ⟨ys, ⟨xs, e1, e2⟩, e3⟩ := e9
  subst e3
  unfold sortedD at e2
  by_cases ok : SortOk xs
  · rw [if_pos ok] at e2
    cases e2
    obtain ⟨o1, o2, o3, o4, o5⟩ := ok
    by_cases hl1 : (listOf S x).isSome = true
    · obtain ⟨xs', e1'⟩ := Option.isSome_iff_exists.mp hl1
      have hxs : xs' = xs := by
        unfold listOf at e1'
        unfold seqOf at e1
        cases q : deref S x <;> simp [q] at e1 e1'
        rw [← e1', ← e1]
      subst hxs
      obtain ⟨a1, vs, rfl, hq, rs, z1, its, n, rv, ho⟩ := listOf_obj hK I sr r1 e1'
      obtain ⟨u, rfl, ru⟩ := vals1 r
      cases ru
      have st := stands_of rs rv
      have hl : s.heap.IsList a1 its.toArray := ⟨_, ho, rfl, _, rfl⟩
      refine PySem.W.sorted_data (enc := encD) (bs := xs') hl st (reads_each hK I st o1) o2 o3 (by unfold line at o5; exact o5) (fun b hb => by have := o4 b hb; show X.A.units + 2 + (encD b).depth < cLine; omega) fun out hlen ho' => ?_
      obtain ⟨ws, g1, g2⟩ := stands_to ho'
      obtain ⟨ep, he'⟩ := PyProof.Rows.sortedAll_at s.heap its (List.toArray out)
      have hp : H (s.heap.objs.size + 1) = none := I.hok.fresh (Nat.le_succ _)
      have hz : ws.length ≤ sizeLine := by rw [g1.length, hlen]; exact o5
      exact ⟨.ref _, upd H (s.heap.objs.size + 1) (.lst ws), I.laid (t' := s.toks) (fun _ _ => PyProof.Rows.sortedAll_old) (Nat.le_succ _) ⟨hz, out, ep, g1, he'⟩, rfl, k ρ _ _ (sr.ext_new hp) (sr.new hp) (upd_list sr hp g2)⟩
    · have ht : x = .tup xs := by
        unfold listOf at hl1
        unfold seqOf at e1
        cases q : deref S x <;> simp [q] at e1 hl1
        subst e1
        unfold deref at q
        cases x with
        | ref m =>
          cases q2 : S[m]? with
          | none => simp [q2] at q
          | some c => cases c <;> simp [q2] at q
        | _ => simp at q; try (rw [q])
      subst ht
      simp only [RD] at r1
      obtain ⟨a1, vs, rfl, t, rs⟩ := r1
      obtain ⟨u, rfl, ru⟩ := vals1 r
      cases ru
      obtain ⟨its, rv, hl, hz0⟩ := I.tuple (by rw [hK]; exact t.sq)
      have st := stands_of rs rv
      refine sortedT_data (enc := encD) (bs := xs) hl st (reads_each hK I st o1) o2 o3 (by unfold line at o5; exact o5) (fun b hb => by have := o4 b hb; show X.A.units + 2 + (encD b).depth < cLine; omega) fun out hlen ho' => ?_
      obtain ⟨ws, g1, g2⟩ := stands_to ho'
      obtain ⟨ep, he'⟩ := PyProof.Rows.sortedAll_at s.heap its (List.toArray out)
      have hp : H (s.heap.objs.size + 1) = none := I.hok.fresh (Nat.le_succ _)
      have hz : ws.length ≤ sizeLine := by rw [g1.length, hlen]; exact o5
      exact ⟨.ref _, upd H (s.heap.objs.size + 1) (.lst ws), I.laid (t' := s.toks) (fun _ _ => PyProof.Rows.sortedAll_old) (Nat.le_succ _) ⟨hz, out, ep, g1, he'⟩, rfl, k ρ _ _ (sr.ext_new hp) (sr.new hp) (upd_list sr hp g2)⟩
  · rw [if_neg ok] at e2
    cases e2
theorem reads_list (hK : X.K = L.K) (I : Inv X pins σ H s) (sr : SR L ρ S H) {x : D} {v : V} {u : Value} {p : PyData} (r : RD L ρ H x v) (q : RelV v u) (e : pyS S x = some p) (c : p.canLay0 = true) : ∃ as, Reads s.heap u p as := by
  unfold pyS deref at e
  have old : pyd x = some p → ∃ as, Reads s.heap u p as := fun e => Dp.reads I p v u (by rw [hK]; exact dp_of x v p r e c) q
  cases x with
  | ref n =>
    cases q' : S[n]? with
    | none => simp [q', pyd] at e
    | some cc =>
      cases cc with
      | list xs =>
        simp only [q', pyd, Option.map_eq_some_iff] at e
        obtain ⟨ds, e, rfl⟩ := e
        obtain ⟨a, rfl, _, vs, ha, rs⟩ := sr.at r q' (by simp)
        exact Dp.reads I _ _ u (by rw [hK]; exact .lst (SqL.of ha) (dps_of xs vs ds rs e (by simpa only [PyData.canLay0] using c))) q
      | _ => simp [q', pyd] at e
  | _ => exact old e
theorem pyds_len : ∀ {xs : List D} {ds : List PyData}, pyds xs = some ds → xs.length = ds.length
  | [], ds, e => by
    simp only [pyds, Option.some.injEq] at e
    subst e; rfl
  | x :: xs, ds, e => by
    cases q1 : pyd x with
    | none => simp [pyds, q1] at e
    | some p =>
      cases q2 : pyds xs with
      | none => simp [pyds, q1, q2] at e
      | some ps =>
        simp only [pyds, q1, q2, Option.some.injEq] at e
        subst e
        rw [List.length_cons, List.length_cons, pyds_len q2]
/-- the system's modules stand in the fragment -/
def SysK (K : PySem.W.Frag) : Prop := ∃ o, K.lookup sysModules = some o ∧ o.cls = .type "dict"
theorem sys_none (hsm : SysK X.K) (I : Inv X pins σ H s) : H sysModules = none := by
  obtain ⟨o, h1, _⟩ := hsm
  exact (I.bs _ _ (I.mod.kin _ _ h1)).2
theorem ne_sys (hsm : SysK X.K) (I : Inv X pins σ H s) {a : Addr} {o : HO} (h : H a = some o) : sysModules ≠ a := fun e => by
  rw [← e, sys_none hsm I] at h
  cases h
theorem sys_lst (hsm : SysK X.K) (hK : X.K = L.K) (I : Inv X pins σ H s) {a : Addr} {vs : List V} (h : LstF L ρ H a vs) : sysModules ≠ a := by
  rcases h with ⟨h | ⟨ob, h⟩, _⟩ | ⟨its, n, h, _⟩
  · exact ne_sys hsm I h
  · exact ne_sys hsm I h
  · intro e
    obtain ⟨o, h1, h2⟩ := hsm
    rw [hK, e, h] at h1
    cases h1
    exact absurd (show Value.type "list" = Value.type "dict" from h2) (by decide)
mutual
theorem drd (hsm : SysK X.K) (hK : X.K = L.K) (I : Inv X pins σ H s) : ∀ (d : D) (v : V) (u : Value) (p : PyData), RD L ρ H d v → RelV v u → pyd d = some p → layD p = true → ∃ as, Reads s.heap u p as ∧ sysModules ∉ as
  | .none, v, u, p, r, q, e, _ => by
    simp only [RD] at r
    simp only [pyd, Option.some.injEq] at e
    subst r e
    cases q
    exact ⟨_, Reads.none, by simp⟩
  | .bool b, v, u, p, r, q, e, _ => by
    simp only [RD] at r
    simp only [pyd, Option.some.injEq] at e
    subst r e
    cases q
    exact ⟨_, Reads.bool b, by simp⟩
  | .int i, v, u, p, r, q, e, _ => by
    simp only [RD] at r
    simp only [pyd, Option.some.injEq] at e
    subst r e
    obtain ⟨t, rfl⟩ := q
    exact ⟨_, Reads.int i t, by simp⟩
  | .str z, v, u, p, r, q, e, _ => by
    simp only [RD] at r
    simp only [pyd, Option.some.injEq] at e
    subst r e
    obtain ⟨t, rfl⟩ := q
    exact ⟨_, Reads.str z t, by simp⟩
  | .tup xs, v, u, p, r, q, e, l => by
    simp only [RD] at r
    obtain ⟨a, vs, rfl, t, rs⟩ := r
    simp only [pyd, Option.map_eq_some_iff] at e
    obtain ⟨ds, e, rfl⟩ := e
    cases q
    obtain ⟨its, rv, ⟨o, ho, hc, n, hd⟩, _⟩ := I.tuple (by rw [hK]; exact t.sq)
    obtain ⟨as, hr, hn⟩ := drds hsm hK I xs vs its ds rs rv e (by simpa only [layD] using l)
    exact ⟨_, Reads.tuple ho hc hd hr, hn⟩
  | .list xs, v, u, p, r, q, e, l => by
    simp only [RD] at r
    obtain ⟨a, vs, rfl, t, rs⟩ := r
    simp only [pyd, Option.map_eq_some_iff] at e
    obtain ⟨ds, e, rfl⟩ := e
    cases q
    obtain ⟨its, rv, ⟨o, n, ho, hc, _, hd⟩, _⟩ := I.list (by rw [hK]; exact t.sq)
    obtain ⟨as, hr, hn⟩ := drds hsm hK I xs vs its ds rs rv e (by simpa only [layD] using l)
    exact ⟨_, Reads.list ho hc hd hr, fun z => (List.mem_cons.mp z).elim (sys_lst hsm hK I t) hn⟩
  | .dict ks xs, v, u, p, r, q, e, l => by
    simp only [RD] at r
    obtain ⟨a, vs, rfl, ⟨ha0, hnd, hlv, hlen⟩, rs⟩ := r
    simp only [pyd, Option.map_eq_some_iff] at e
    obtain ⟨ds, e, rfl⟩ := e
    cases q
    have key : ∀ f : Key → PyData, layD (.dict ((ks.map f).zip ds)) = true → ks.zip vs = [] ∧ (ks.map f).zip ds = [] := fun f l => by
      cases hk : (ks.map f).zip ds with
      | cons a b => rw [hk] at l; simp [layD] at l
      | nil =>
        refine ⟨?_, rfl⟩
        have l1 := rs.length
        have l2 := pyds_len e
        rcases List.zip_eq_nil_iff.mp hk with h | h
        · have : ks = [] := List.map_eq_nil_iff.mp h
          rw [this]; rfl
        · subst h
          have : vs.length = 0 := by rw [← l1, l2]; rfl
          have h3 := List.eq_nil_of_length_eq_zero this
          subst h3
          simp
    have hz := key _ l
    have ha : H a = some (.dK (ks.zip vs)) := by
      rcases ha0 with ha | ⟨hk, _⟩
      · exact ha
      · exfalso
        cases ks with
        | nil => exact hk rfl
        | cons k ks =>
          cases vs with
          | nil => cases hlen
          | cons v vs => cases hz.1
    rw [hz.2]
    rw [hz.1] at ha
    obtain ⟨_, hb, vs2, kv, ⟨o, es, ep, ho, hex, hd, _, hp, _⟩⟩ := I.hok a _ ha
    cases kv
    have he : es.toList = [] := by
      have := hp
      cases h5 : es.toList with
      | nil => rfl
      | cons x y => rw [h5] at this; cases this
    exact ⟨_, Reads.dict (as := []) (bs := []) ho hex.1 hd (by rw [he]; exact .nil) (by rw [he]; exact .nil), by simpa using ne_sys hsm I ha⟩
  | .obj c fs, v, u, p, r, q, e, _ => by simp [pyd] at e
  | .exc c fs, v, u, p, r, q, e, _ => by simp [pyd] at e
  | .cls c, v, u, p, r, q, e, _ => by simp [pyd] at e
  | .ref c, v, u, p, r, q, e, _ => by simp [pyd] at e
theorem drds (hsm : SysK X.K) (hK : X.K = L.K) (I : Inv X pins σ H s) : ∀ (ds : List D) (vs : List V) (us : List Value) (ps : List PyData), RDs L ρ H ds vs → Vals vs us → pyds ds = some ps → layDs ps = true → ∃ as, ReadsAll s.heap us ps as ∧ sysModules ∉ as
  | [], vs, us, ps, r, q, e, _ => by
    simp only [RDs] at r
    simp only [pyds, Option.some.injEq] at e
    subst r e
    cases q
    exact ⟨_, ReadsAll.nil, by simp⟩
  | d :: ds, vs, us, ps, r, q, e, l => by
    simp only [RDs] at r
    obtain ⟨v, ws, rfl, r1, rs⟩ := r
    cases q1 : pyd d with
    | none => simp [pyds, q1] at e
    | some p1 =>
      cases q2 : pyds ds with
      | none => simp [pyds, q1, q2] at e
      | some ps1 =>
        simp only [pyds, q1, q2, Option.some.injEq] at e
        subst e
        simp only [layDs, Bool.and_eq_true] at l
        cases q with
        | cons q3 q4 =>
          obtain ⟨as, h1, h2⟩ := drd hsm hK I d v _ p1 r1 q3 q1 l.1
          obtain ⟨bs, h3, h4⟩ := drds hsm hK I ds ws _ ps1 rs q4 q2 l.2
          exact ⟨_, ReadsAll.cons h1 h3, fun z => (List.mem_append.mp z).elim h2 h4⟩
end
theorem reads_listD (hsm : SysK X.K) (hK : X.K = L.K) (I : Inv X pins σ H s) (sr : SR L ρ S H) {x : D} {v : V} {u : Value} {p : PyData} (r : RD L ρ H x v) (q : RelV v u) (e : pyS S x = some p) (c : layD p = true) : ∃ as, Reads s.heap u p as ∧ sysModules ∉ as := by
  unfold pyS deref at e
  cases x with
  | ref n =>
    cases q' : S[n]? with
    | none => simp [q', pyd] at e
    | some cc =>
      cases cc with
      | list xs =>
        simp only [q', pyd, Option.map_eq_some_iff] at e
        obtain ⟨ds, e, rfl⟩ := e
        obtain ⟨a, rfl, _, vs, ha, rs⟩ := sr.at r q' (by simp)
        cases q
        obtain ⟨its, rv, ⟨o, n, ho, hc, _, hd⟩, _⟩ := I.list (SqL.of ha)
        obtain ⟨as, hr, hn⟩ := drds hsm hK I xs vs its ds rs rv e (by simpa only [layD] using c)
        exact ⟨_, Reads.list ho hc hd hr, fun z => (List.mem_cons.mp z).elim (ne_sys hsm I ha) hn⟩
      | _ => simp [q', pyd] at e
  | _ => exact drd hsm hK I _ v u p r q e c
theorem bm_repr (hsm : SysK X.K) (hK : X.K = L.K) (hg : X.A.guards = some []) (hu : X.A.units + 64 < cLine) : CallR X (.builtin "repr") (rB L .repr) := by
  intro pins s σ H xs us Q I r h
  obtain ⟨ρ, S, ds, d, sr, rs, e, k⟩ := h
  obtain ⟨x, ex, e2⟩ := bfn1 (f := fun x => (reprD S x).map .str) (fun x => by simp [bfn]) (by simp [bfn]) (fun x y t => by simp [bfn]) e
  subst ex
  obtain ⟨v, rfl, r1⟩ := rs.one
  obtain ⟨u, rfl, ru⟩ := vals1 r
  simp only [Option.map_eq_some_iff] at e2
  obtain ⟨z, e2, rfl⟩ := e2
  unfold reprD at e2
  cases q : pyS S x with
  | none => rw [q] at e2; cases e2
  | some p =>
    rw [q] at e2
    by_cases ok : layD p = true ∧ p.showable = true ∧ p.depth ≤ 40 ∧ p.shown.length ≤ line
    · replace e2 : (if layD p = true ∧ p.showable = true ∧ p.depth ≤ 40 ∧ p.shown.length ≤ line then some p.shown else none) = some z := e2
      rw [if_pos ok] at e2
      cases e2
      obtain ⟨o1, o3, o4, o5⟩ := ok
      have byRef : ∀ a, v = .ref a → wpAny (model X.prog X.w) X.A (call (.builtin "repr") [u]) (fun u' s' => ∃ x' H', Inv X pins σ H' s' ∧ RelV x' u' ∧ Q x' H') X.xe s := fun a ea => by
        obtain ⟨as, rd, hns⟩ := reads_listD hsm hK I sr r1 ru q o1
        subst ea
        obtain rfl : u = Value.ref a := ru
        exact PySem.repr_of_reads' rd o3 (fun _ => hns) hg (by omega) (fun _ _ h => h) (fun h' u tk hk => ⟨.str _, H, I.kept hk, ⟨_, rfl⟩, k ρ H _ (.refl _ _) sr (by simp)⟩) o5
      cases x with
      | none =>
        simp only [RD] at r1
        subst r1
        obtain rfl : u = Value.none := ru
        simp only [pyS, deref, pyd, Option.some.injEq] at q
        subst q
        exact PySem.P.repr_of_none ⟨.str _, H, I.tok _, ⟨_, rfl⟩, k ρ H _ (.refl _ _) sr (by simp [PyData.shown])⟩
      | bool b =>
        simp only [RD] at r1
        subst r1
        obtain rfl : u = Value.bool b := ru
        simp only [pyS, deref, pyd, Option.some.injEq] at q
        subst q
        exact PySem.P.repr_of_bool ⟨.str _, H, I.tok _, ⟨_, rfl⟩, k ρ H _ (.refl _ _) sr (by simp only [RD, PyData.shown])⟩
      | int i =>
        simp only [RD] at r1
        subst r1
        obtain ⟨t, rfl⟩ := (show ∃ t, u = Value.int i t from ru)
        simp only [pyS, deref, pyd, Option.some.injEq] at q
        subst q
        exact PySem.P.repr_of_int (by simpa [PyData.showable] using o3) ⟨.str _, H, I.tok _, ⟨_, rfl⟩, k ρ H _ (.refl _ _) sr (by simp [PyData.shown])⟩
      | str y =>
        simp only [RD] at r1
        subst r1
        obtain ⟨t, rfl⟩ := (show ∃ t, u = Value.str y t from ru)
        simp only [pyS, deref, pyd, Option.some.injEq] at q
        subst q
        exact PySem.P.repr_of_str ⟨.str _, H, I.tok _, ⟨_, rfl⟩, k ρ H _ (.refl _ _) sr (by simp [PyData.shown])⟩ o5
      | tup ys =>
        simp only [RD] at r1
        obtain ⟨a, vs, ea, _⟩ := r1
        exact byRef a ea
      | list ys =>
        simp only [RD] at r1
        obtain ⟨a, vs, ea, _⟩ := r1
        exact byRef a ea
      | dict ks ys =>
        simp only [RD] at r1
        obtain ⟨a, vs, ea, _⟩ := r1
        exact byRef a ea
      | ref n =>
        simp only [RD] at r1
        obtain ⟨a, ea, _⟩ := r1
        exact byRef a ea
      | _ => simp [pyS, deref, pyd] at q
    · replace e2 : (if layD p = true ∧ p.showable = true ∧ p.depth ≤ 40 ∧ p.shown.length ≤ line then some p.shown else none) = some z := e2
      rw [if_neg ok] at e2
      cases e2
end
section
variable {X : Cx} {L : Lk} {W : WX} {P : Prog} {Φ : Call} {pos p : Pos} {a b : Expr} {ea eb : E} {es : List E} {xs : List Expr}
/-- f(..), f a built-in function -/
theorem bc_of {b : BFn} {σ : L2.St} {H : Hp} {Q : VK} (h : tE L W (ev P Φ (.bc b es)) σ H Q) : tCB (rB L b) (tA L W (evs P Φ es)) σ H Q := by
  obtain ⟨ρ, S, η, sr, er, po⟩ := h
  unfold ev at po
  refine first sr er po fun vs H1 ⟨ρ1, S1, ds, x1, s1, r1, p1⟩ => ?_
  obtain ⟨d, e, k⟩ := Post.pur p1
  exact ⟨ρ1, S1, ds, d, s1, r1, e, k⟩
theorem pm_bc {b : BFn} {x : Str} {id : String} {e : Expr} (hc : CallR X (.builtin id) (rB L b)) (hg : Gl X x) (hm : X.mg x = none) (hv : bootBuiltins x = some (.builtin id)) (ha : PA X (e :: xs) (tA L W (evs P Φ es))) (hn : x ≠ "__name__") (hdb : (x == ("__debug__" : Str)) = false)
    (he : starEach (e :: xs) X.env = (false, eval e X.env) :: starEach xs X.env) (hpl : (backTo pos (starEach xs X.env)).any (·.1) = false) : PE X (.Call (.Name x p) (e :: xs) [] pos) (tE L W (ev P Φ (.bc b es))) :=
  (pe_callB hc hg hm hv ha hn hdb he hpl).imp fun σ H Q h => bc_of h
theorem pm_bcT {b : BFn} {x : Str} {T : String} {e : Expr} (hc : CallR X (.type T) (rB L b)) (hg : Gl X x) (hm : X.mg x = none) (hv : bootBuiltins x = some (.type T)) (ha : PA X (e :: xs) (tA L W (evs P Φ es))) (hn : x ≠ "__name__") (hdb : (x == ("__debug__" : Str)) = false)
    (he : starEach (e :: xs) X.env = (false, eval e X.env) :: starEach xs X.env) (hpl : (backTo pos (starEach xs X.env)).any (·.1) = false) : PE X (.Call (.Name x p) (e :: xs) [] pos) (tE L W (ev P Φ (.bc b es))) :=
  (pe_callTy hc hg hm hv ha hn hdb he hpl).imp fun σ H Q h => bc_of h
theorem rg_rd {L : Lk} {ρ : Rho} {H : Hp} (a b : Int) : RDs L ρ H (rangeD a b) (rgV a b) := by
  unfold rangeD rgV
  induction List.range (b - a).toNat with
  | nil => simpa using RDs.nil
  | cons x xs ih => simpa using RDs.cons (by simp) ih
theorem rgOk_of {a b : Int} (h : rangeOk a b = true) : RgOk a b := by
  unfold rangeOk at h
  simp only [Bool.and_eq_true, decide_eq_true_eq] at h
  exact h
theorem evs_one {e : E} {η : Env} (hst : ∀ x, e ≠ .st x) : evs P Φ [e] η = (ev P Φ e η >>= fun x => pure [x]) := by
  have e1 : evs P Φ [e] η = (do
      let x ← ev P Φ e η
      let ys ← evs P Φ [] η
      pure (x :: ys)) := by
    cases e <;> first | (exact absurd rfl (hst _)) | rfl
  rw [e1]
  rfl
theorem evs_two {e f : E} {η : Env} (hst : ∀ x, e ≠ .st x) (hsf : ∀ x, f ≠ .st x) : evs P Φ [e, f] η = (ev P Φ e η >>= fun x => ev P Φ f η >>= fun y => pure [x, y]) := by
  have e1 : evs P Φ [e, f] η = (do
      let x ← ev P Φ e η
      let ys ← evs P Φ [f] η
      pure (x :: ys)) := by
    cases e <;> first | (exact absurd rfl (hst _)) | rfl
  rw [e1]
  simp only [evs_one hsf, M.assoc]
  rfl
/-- the ints of a range, laid as a list, as a tuple -/
theorem rg1_of {σ : L2.St} {H : Hp} {S : Store} {ρ : Rho} {η : Env} {g : List D → M D} {Q : VK} (hst : ∀ x, ea ≠ .st x) (sr : SR L ρ S H) (er : ER L ρ H η σ) (po : Post L W σ ρ H (RD L) Q ((evs P Φ [ea] η >>= g) S)) {R : Int → Int → Hp → Prop}
    (k : ∀ n ρ1 S1 H1, SR L ρ1 S1 H1 → ER L ρ1 H1 η σ → Post L W σ ρ1 H1 (RD L) Q (g [.int n] S1) → R 0 n H1) (hb : ∀ d S1, (∀ n, d ≠ .int n) → g [d] S1 = .bad) : tRg1 (tE L W (ev P Φ ea)) σ H R := by
  rw [evs_one hst, M.assoc] at po
  refine first sr er po fun x H1 ⟨ρ1, S1, d, x1, s1, r1, p1⟩ => ?_
  replace p1 : Post L W σ ρ1 H1 (RD L) Q (g [d] S1) := p1
  by_cases hd : ∃ n, d = .int n
  · obtain ⟨n, rfl⟩ := hd
    simp only [RD_int] at r1
    exact ⟨n, r1, k n ρ1 S1 H1 s1 (er.mono x1) p1⟩
  · rw [hb d S1 fun n e => hd ⟨n, e⟩] at p1
    exact p1.elim
theorem rg2_of {σ : L2.St} {H : Hp} {S : Store} {ρ : Rho} {η : Env} {g : List D → M D} {Q : VK} (hst : ∀ x, ea ≠ .st x) (hsf : ∀ x, eb ≠ .st x) (sr : SR L ρ S H) (er : ER L ρ H η σ) (po : Post L W σ ρ H (RD L) Q ((evs P Φ [ea, eb] η >>= g) S)) {R : Int → Int → Hp → Prop}
    (k : ∀ m n ρ1 S1 H1, SR L ρ1 S1 H1 → ER L ρ1 H1 η σ → Post L W σ ρ1 H1 (RD L) Q (g [.int m, .int n] S1) → R m n H1) (hb : ∀ d d' S1, (¬ ∃ m n, d = .int m ∧ d' = .int n) → g [d, d'] S1 = .bad) : tRg2 (tE L W (ev P Φ ea)) (tE L W (ev P Φ eb)) σ H R := by
  rw [evs_two hst hsf, M.assoc] at po
  refine first sr er po fun x H1 ⟨ρ1, S1, d, x1, s1, r1, p1⟩ => ?_
  replace p1 : Post L W σ ρ1 H1 (RD L) Q (((ev P Φ eb η >>= fun y => (pure [d, y] : M (List D))) >>= g) S1) := p1
  rw [M.assoc] at p1
  refine first s1 (er.mono x1) p1 fun y H2 ⟨ρ2, S2, d', x2, s2, r2, p2⟩ => ?_
  replace p2 : Post L W σ ρ2 H2 (RD L) Q (g [d, d'] S2) := p2
  by_cases hd : ∃ m n, d = .int m ∧ d' = .int n
  · obtain ⟨m, n, rfl, rfl⟩ := hd
    simp only [RD_int] at r1 r2
    exact ⟨m, n, r1, r2, k m n ρ2 S2 H2 s2 ((er.mono x1).mono x2) p2⟩
  · rw [hb d d' S2 hd] at p2
    exact p2.elim
theorem bfn_rg {b : BFn} {S : Store} {vs : List D} (hb : b = .listRange ∨ b = .tupRange) (h : bfn b S vs ≠ none) : (∃ n, vs = [.int n]) ∨ ∃ m n, vs = [.int m, .int n] := by
  rcases vs with _ | ⟨x, _ | ⟨y, _ | ⟨z, t⟩⟩⟩
  · rcases hb with rfl | rfl <;> simp [bfn] at h
  · cases x with
    | int n => exact .inl ⟨n, rfl⟩
    | _ => rcases hb with rfl | rfl <;> simp [bfn] at h
  · cases x with
    | int n =>
      cases y with
      | int m => exact .inr ⟨n, m, rfl⟩
      | _ => rcases hb with rfl | rfl <;> simp [bfn] at h
    | _ => rcases hb with rfl | rfl <;> simp [bfn] at h
  · rcases hb with rfl | rfl <;> cases x <;> cases y <;> simp [bfn] at h
theorem pur_none {f : Store → Option D} {S : Store} (h : f S = none) : pur f S = .bad := by
  unfold pur
  rw [h]
theorem pm_listRg1 {p2 pos2 : Pos} (hc : X.calm = true) (hg : Gl X "list") (hm : X.mg "list" = none) (hg2 : Gl X "range") (hm2 : X.mg "range" = none) (ha : PE X a (tE L W (ev P Φ ea))) (hst : ∀ x, ea ≠ .st x)
    (na : starEach [a] X.env = (false, eval a X.env) :: starEach [] X.env) (nb : starEach [.Call (.Name "range" p2) [a] [] pos2] X.env = (false, eval (.Call (.Name "range" p2) [a] [] pos2) X.env) :: starEach [] X.env) :
    PE X (.Call (.Name "list" p) [.Call (.Name "range" p2) [a] [] pos2] [] pos) (tE L W (ev P Φ (.bc .listRange [ea]))) := by
  refine (pe_listRg hc hg hm (prg_1 hg2 hm2 ha na) nb).imp fun σ H Q ⟨ρ, S, η, sr, er, po⟩ => ?_
  unfold ev at po
  refine rg1_of hst sr er po (fun n ρ1 S1 H1 s1 e1 p1 => ?_) fun d S1 hd => pur_none ?_
  · obtain ⟨d, e, k⟩ := Post.pur p1
    simp only [bfn] at e
    by_cases ok : rangeOk 0 n = true
    · rw [if_pos ok] at e
      cases e
      exact ⟨rgOk_of ok, fun q hq => k ρ1 _ _ (s1.ext_new hq) (s1.new hq) (upd_list s1 hq (rg_rd 0 n))⟩
    · rw [if_neg ok] at e; cases e
  · cases q : bfn .listRange S1 [d] with
    | none => rfl
    | some v =>
      rcases bfn_rg (.inl rfl) (by rw [q]; simp : bfn .listRange S1 [d] ≠ none) with ⟨n, e⟩ | ⟨m, n, e⟩
      · cases e; exact absurd rfl (hd n)
      · cases e
theorem ints_vals : ∀ {ns : List Int} {us : List Value}, Vals (ns.map V.int) us → PyProof.Rows.IntsAre us ns
  | [], _, .nil => .nil
  | n :: ns, _, .cons r t => by
    obtain ⟨k, rfl⟩ := r
    exact .cons n k (ints_vals t)
theorem len_same : ∀ {l m : List Int}, l.Nodup → m.Nodup → (∀ k, k ∈ l ↔ k ∈ m) → l.length = m.length
  | l, m, h1, h2, h => ((List.perm_ext_iff_of_nodup h1 h2).mpr h).length_eq
theorem pm_lenSet {p2 q : Pos} (hK : X.K = L.K) (hc : X.calm = true) (hg : Gl X "len") (hm : X.mg "len" = none) (hg2 : Gl X "set") (hm2 : X.mg "set" = none) (ha : PE X a (tE L W (ev P Φ ea))) (hst : ∀ x, ea ≠ .st x)
    (na : starEach [a] X.env = (false, eval a X.env) :: starEach [] X.env) : PE X (.Call (.Name "len" p) [.Call (.Name "set" p2) [a] [] q] [] pos) (tE L W (ev P Φ (.bc .lenSet [ea]))) := by
  refine ⟨fun pins s σ H Q I ⟨ρ, S, η, sr, er, po⟩ => ?_⟩
  refine Call_ (ld_blt I hg hm PySem.boot_len ?_)
  refine PyProof.Rows.callWith_builtin1 (PyProof.Rows.args_cons ?_ rfl) rfl rfl
  refine Call_ (ld_blt I hg2 hm2 PyProof.Rows.boot_set ?_)
  unfold ev at po
  rw [evs_one hst, M.assoc] at po
  refine PyProof.Rows.callWith_type1 (PyProof.Rows.args_cons (thn (ha.run pins s σ H _ I (first sr er po fun x H1 z => z)) fun v s1 ⟨x, H1, I1, r1, ρ1, S1, d, x1, sr1, rd, p1⟩ => PyProof.Rows.args_nil ?_) na) na rfl
  replace p1 : Post L W σ ρ1 H1 (RD L) Q (pur (fun S => bfn .lenSet S [d]) S1) := p1
  obtain ⟨d2, e, k⟩ := Post.pur p1
  cases d with
  | tup xs =>
    simp only [bfn] at e
    cases q1 : intsOf xs with
    | none => rw [q1] at e; cases e
    | some ns =>
      rw [q1] at e
      by_cases hn : ns.Nodup ∧ ns.length ≤ 4000
      · replace e : (if ns.Nodup ∧ ns.length ≤ 4000 then some (D.int ns.length) else none) = some d2 := e
        rw [if_pos hn] at e
        cases e
        simp only [RD] at rd
        obtain ⟨a1, vs, rfl, t, rs⟩ := rd
        cases r1
        obtain ⟨its, rv, hl, hz⟩ := I1.tuple (by rw [hK]; exact t.sq)
        rw [ints_rd q1 rs] at rv
        refine L2.call_set_tupI ns (I1.ok.hd hc) hl (by simpa using ints_vals rv) (by unfold scanBound; omega) fun h' tk c hS hcl hk => ?_
        refine PyProof.Rows.args_nil ?_
        obtain ⟨o, es, ep, t, ho, hex, hd, _, hnd, hmem, _, hf, hnc, _⟩ := hS
        have I2 : Inv X pins σ H1 { s1 with heap := h', toks := tk } := I1.kept fun b o e => hk b o e
        have hc2 : es.size = ns.length := by
          have e1 := len_same hnd hn.1 fun k => by
            rw [← hmem k]; simp
          simpa using e1
        refine call_len_set ho hex hd hf (by rw [hc2] <;> omega) ⟨.int es.size, H1, I2.tok _, ⟨_, rfl⟩, ?_⟩
        rw [hc2]
        exact k ρ1 H1 _ (.refl _ _) sr1 (by simp)
      · replace e : (if ns.Nodup ∧ ns.length ≤ 4000 then some (D.int ns.length) else none) = some d2 := e
        rw [if_neg hn] at e
        cases e
  | _ => simp [bfn] at e
theorem om_eqE (hK : X.K = L.K) (hu : X.A.units + 64 < cLine) : OpR X (compareOp .Eq) (rPur L emptyT) := by
  intro pins s σ H x y v u Q I rx ry h
  obtain ⟨ρ, S, a, b, d, sr, ra, rb, e, k⟩ := h
  unfold emptyT at e
  split at e
  · next xs =>
    cases e
    simp only [RD] at ra rb
    obtain ⟨a1, vs, rfl, t1, r1⟩ := ra
    obtain ⟨a2, vs2, rfl, t2, r2⟩ := rb
    simp only [RDs] at r2
    subst r2
    cases rx
    cases ry
    obtain ⟨its, rv, hl, _⟩ := I.tuple (by rw [hK]; exact t1.sq)
    obtain ⟨its2, rv2, hl2, _⟩ := I.tuple (by rw [hK]; exact t2.sq)
    cases rv2
    refine SeqAt.eq_tupleAt (e := fun _ => true) hl hl2 (by omega) (fun j h1 h2 => absurd h2 (by simp)) ?_
    refine ⟨.bl _, H, I, rfl, ?_⟩
    have e1 := r1.length
    have e2 := rv.length
    have e3 : ((List.range (min its.toArray.size ([] : List Value).toArray.size)).all (fun _ => true) && its.toArray.size == ([] : List Value).toArray.size) = xs.isEmpty := by
      cases xs with
      | nil =>
        have : its = [] := List.eq_nil_of_length_eq_zero (by rw [← e2, ← e1]; rfl)
        rw [this]
        rfl
      | cons z zs =>
        have : its.length ≠ 0 := by rw [← e2, ← e1]; simp
        simp
        intro hz
        exact absurd (by rw [hz]; rfl) this
    rw [e3]
    exact k ρ H _ (.refl _ _) sr (by simp)
  · cases e
theorem ev_tup0 {η : Env} : ev P Φ (.tup []) η = (Pure.pure (D.tup []) : M D) := by
  unfold ev
  unfold evs
  rfl
theorem pm_eqE (hK : X.K = L.K) (hu : X.A.units + 64 < cLine) (ha : PE X a (tE L W (ev P Φ ea))) (hb : PE X b (tE L W (ev P Φ (.tup [])))) (hm : behindInMarks .Eq b = false) : PE X (.Compare a [.Eq] [b] pos) (tE L W (ev P Φ (.eqE ea))) := by
  refine (pe_cmpR (om_eqE hK hu) ha hb hm).imp fun σ H Q ⟨ρ, S, η, sr, er, po⟩ => ?_
  refine two (fa := ev P Φ ea) (fb := ev P Φ (.tup [])) sr er ?_
  unfold ev at po
  rw [ev_tup0]
  exact po
theorem pt_meqE (hK : X.K = L.K) (hu : X.A.units + 64 < cLine) (ha : PE X a (tE L W (ev P Φ ea))) (hb : PE X b (tE L W (ev P Φ (.tup [])))) (hm : behindInMarks .Eq b = false) : PT X (.Compare a [.Eq] [b] pos) (tT L W (evT P Φ (.eqE ea))) := by
  refine (pt_cmpR (om_eqE hK hu) ha hb hm).imp fun σ H Q h => ?_
  obtain ⟨ρ, S, η, sr, er, po⟩ := test_of h
  refine two (fa := ev P Φ ea) (fb := ev P Φ (.tup [])) sr er ?_
  unfold ev at po
  rw [ev_tup0]
  exact po
theorem rngN_of {d : D} {n : Int} (h : rngN d = some n) : d = .int n ∧ rangeOk 0 n = true := by
  unfold rngN at h
  cases d with
  | int m =>
    by_cases ok : rangeOk 0 m = true
    · simp only [if_pos ok, Option.some.injEq] at h
      subst h
      exact ⟨rfl, ok⟩
    · simp [if_neg ok] at h
  | _ => cases h
theorem pm_rngm {p2 pos2 : Pos} (hc : X.calm = true) (hg : Gl X "list") (hm : X.mg "list" = none) (hg2 : Gl X "range") (hm2 : X.mg "range" = none) (ha : PE X a (tE L W (ev P Φ ea)))
    (na : starEach [a] X.env = (false, eval a X.env) :: starEach [] X.env) (nb : starEach [.Call (.Name "range" p2) [a] [] pos2] X.env = (false, eval (.Call (.Name "range" p2) [a] [] pos2) X.env) :: starEach [] X.env) :
    PE X (.Call (.Name "list" p) [.Call (.Name "range" p2) [a] [] pos2] [] pos) (tE L W (ev P Φ (.rngm ea))) := by
  refine (pe_listRg hc hg hm (prg_1 hg2 hm2 ha na) nb).imp fun σ H Q ⟨ρ, S, η, sr, er, po⟩ => ?_
  unfold ev at po
  refine first sr er po fun x H1 ⟨ρ1, S1, d, x1, s1, r1, p1⟩ => ?_
  obtain ⟨n, e, p2⟩ := Post.opt p1
  obtain ⟨rfl, ok⟩ := rngN_of e
  simp only [RD_int] at r1
  exact ⟨n, r1, rgOk_of ok, fun q hq => p2.alloc s1 hq ⟨_, upd_same, (rg_rd 0 n).mono (s1.ext_alloc hq)⟩⟩
theorem pm_listRg2 {p2 pos2 : Pos} (hc : X.calm = true) (hg : Gl X "list") (hm : X.mg "list" = none) (hg2 : Gl X "range") (hm2 : X.mg "range" = none) (ha : PE X a (tE L W (ev P Φ ea))) (hb : PE X b (tE L W (ev P Φ eb))) (hst : ∀ x, ea ≠ .st x) (hsf : ∀ x, eb ≠ .st x)
    (na : starEach [a, b] X.env = (false, eval a X.env) :: starEach [b] X.env) (nb : starEach [b] X.env = (false, eval b X.env) :: starEach [] X.env) (hp : (backTo pos2 (starEach [b] X.env)).any (·.1) = false)
    (nr : starEach [.Call (.Name "range" p2) [a, b] [] pos2] X.env = (false, eval (.Call (.Name "range" p2) [a, b] [] pos2) X.env) :: starEach [] X.env) :
    PE X (.Call (.Name "list" p) [.Call (.Name "range" p2) [a, b] [] pos2] [] pos) (tE L W (ev P Φ (.bc .listRange [ea, eb]))) := by
  refine (pe_listRg hc hg hm (prg_2 hg2 hm2 ha hb na nb hp) nr).imp fun σ H Q ⟨ρ, S, η, sr, er, po⟩ => ?_
  unfold ev at po
  refine rg2_of hst hsf sr er po (fun m n ρ1 S1 H1 s1 e1 p1 => ?_) fun d d' S1 hd => pur_none ?_
  · obtain ⟨d, e, k⟩ := Post.pur p1
    simp only [bfn] at e
    by_cases ok : rangeOk m n = true
    · rw [if_pos ok] at e
      cases e
      exact ⟨rgOk_of ok, fun q hq => k ρ1 _ _ (s1.ext_new hq) (s1.new hq) (upd_list s1 hq (rg_rd m n))⟩
    · rw [if_neg ok] at e; cases e
  · cases q : bfn .listRange S1 [d, d'] with
    | none => rfl
    | some v =>
      rcases bfn_rg (.inl rfl) (by rw [q]; simp : bfn .listRange S1 [d, d'] ≠ none) with ⟨n, e⟩ | ⟨m, n, e⟩
      · cases e
      · cases e; exact absurd ⟨m, n, rfl, rfl⟩ hd
theorem pm_tupRg1 {p2 pos2 : Pos} (hc : X.calm = true) (hg : Gl X "tuple") (hm : X.mg "tuple" = none) (hg2 : Gl X "range") (hm2 : X.mg "range" = none) (ha : PE X a (tE L W (ev P Φ ea))) (hst : ∀ x, ea ≠ .st x)
    (na : starEach [a] X.env = (false, eval a X.env) :: starEach [] X.env) (nb : starEach [.Call (.Name "range" p2) [a] [] pos2] X.env = (false, eval (.Call (.Name "range" p2) [a] [] pos2) X.env) :: starEach [] X.env) :
    PE X (.Call (.Name "tuple" p) [.Call (.Name "range" p2) [a] [] pos2] [] pos) (tE L W (ev P Φ (.bc .tupRange [ea]))) := by
  refine (pe_tupRg hc hg hm (prg_1 hg2 hm2 ha na) nb).imp fun σ H Q ⟨ρ, S, η, sr, er, po⟩ => ?_
  unfold ev at po
  refine rg1_of hst sr er po (fun n ρ1 S1 H1 s1 e1 p1 => ?_) fun d S1 hd => pur_none ?_
  · obtain ⟨d, e, k⟩ := Post.pur p1
    simp only [bfn] at e
    by_cases ok : rangeOk 0 n = true
    · rw [if_pos ok] at e
      cases e
      exact ⟨rgOk_of ok, fun q hq => k ρ1 _ _ (s1.ext_new hq) (s1.new hq) (upd_tup s1 hq (rg_rd 0 n))⟩
    · rw [if_neg ok] at e; cases e
  · cases q : bfn .tupRange S1 [d] with
    | none => rfl
    | some v =>
      rcases bfn_rg (.inr rfl) (by rw [q]; simp : bfn .tupRange S1 [d] ≠ none) with ⟨n, e⟩ | ⟨m, n, e⟩
      · cases e; exact absurd rfl (hd n)
      · cases e
theorem pm_tupRg2 {p2 pos2 : Pos} (hc : X.calm = true) (hg : Gl X "tuple") (hm : X.mg "tuple" = none) (hg2 : Gl X "range") (hm2 : X.mg "range" = none) (ha : PE X a (tE L W (ev P Φ ea))) (hb : PE X b (tE L W (ev P Φ eb))) (hst : ∀ x, ea ≠ .st x) (hsf : ∀ x, eb ≠ .st x)
    (na : starEach [a, b] X.env = (false, eval a X.env) :: starEach [b] X.env) (nb : starEach [b] X.env = (false, eval b X.env) :: starEach [] X.env) (hp : (backTo pos2 (starEach [b] X.env)).any (·.1) = false)
    (nr : starEach [.Call (.Name "range" p2) [a, b] [] pos2] X.env = (false, eval (.Call (.Name "range" p2) [a, b] [] pos2) X.env) :: starEach [] X.env) :
    PE X (.Call (.Name "tuple" p) [.Call (.Name "range" p2) [a, b] [] pos2] [] pos) (tE L W (ev P Φ (.bc .tupRange [ea, eb]))) := by
  refine (pe_tupRg hc hg hm (prg_2 hg2 hm2 ha hb na nb hp) nr).imp fun σ H Q ⟨ρ, S, η, sr, er, po⟩ => ?_
  unfold ev at po
  refine rg2_of hst hsf sr er po (fun m n ρ1 S1 H1 s1 e1 p1 => ?_) fun d d' S1 hd => pur_none ?_
  · obtain ⟨d, e, k⟩ := Post.pur p1
    simp only [bfn] at e
    by_cases ok : rangeOk m n = true
    · rw [if_pos ok] at e
      cases e
      exact ⟨rgOk_of ok, fun q hq => k ρ1 _ _ (s1.ext_new hq) (s1.new hq) (upd_tup s1 hq (rg_rd m n))⟩
    · rw [if_neg ok] at e; cases e
  · cases q : bfn .tupRange S1 [d, d'] with
    | none => rfl
    | some v =>
      rcases bfn_rg (.inr rfl) (by rw [q]; simp : bfn .tupRange S1 [d, d'] ≠ none) with ⟨n, e⟩ | ⟨m, n, e⟩
      · cases e
      · cases e; exact absurd ⟨m, n, rfl, rfl⟩ hd
end
end Mi
set_option Elab.async false
set_option linter.all false
set_option maxHeartbeats 1000000
namespace Mi
open PySem PySem.Spec PyProof.Rows L2
def rM (L : Lk) (m : BM) : V → List V → Hp → VK → Prop := fun x vs H Q => ∃ ρ S a ds d S', SR L ρ S H ∧ RD L ρ H a x ∧ RDs L ρ H ds vs ∧ bmeth m a S ds = some (d, S') ∧ ∀ ρ' H' v, Ext ρ H ρ' H' → SR L ρ' S' H' → RD L ρ' H' d v → Q v H'
section
variable {X : Cx} {L : Lk}
theorem lsts_rd {ρ : Rho} {H : Hp} {S : Store} (sr : SR L ρ S H) {n : Nat} {xs : List D} {x : V} (r : RD L ρ H (.ref n) x) (h : S[n]? = some (.list xs)) : ∃ a vs, x = .ref a ∧ ρ[n]? = some (some a) ∧ H a = some (.lst vs) ∧ RDs L ρ H xs vs := by
  obtain ⟨a, e, hr, vs, ha, rs⟩ := sr.at r h (by simp)
  exact ⟨a, vs, e, hr, ha, rs⟩
theorem sr_list {ρ : Rho} {H : Hp} {S : Store} (sr : SR L ρ S H) {n : Nat} {a : Addr} {ys : List D} {ws : List V} (hn : ρ[n]? = some (some a)) (r : RDs L ρ H ys ws) : SR L ρ (S.set n (.list ys)) (upd H a (.lst ws)) :=
  sr.write hn ⟨ws, upd_same, r.mono (sr.ext_write hn)⟩
theorem bmm_append : MtM X "list.append" (rM L .append) := by
  intro pins s σ H x vs v us Q I rx rv h
  obtain ⟨ρ, S, a, ds, d, S', sr, ra, rs, e, k⟩ := h
  obtain ⟨n, y, xs, rfl, rfl, hn, hz, e1⟩ : ∃ n y xs, a = .ref n ∧ ds = [y] ∧ S[n]? = some (.list xs) ∧ xs.length < line ∧ (d, S') = (.none, S.set n (.list (xs ++ [y]))) := by
    cases a with
    | ref n =>
      rcases ds with _ | ⟨y, _ | ⟨z, t⟩⟩
      · simp [bmeth] at e
      · cases q : S[n]? with
        | none => simp [bmeth, q] at e
        | some c =>
          cases c with
          | list xs =>
            simp only [bmeth, q] at e
            by_cases hz : xs.length < line
            · rw [if_pos hz] at e
              cases e
              exact ⟨n, y, xs, rfl, rfl, q, hz, rfl⟩
            · rw [if_neg hz] at e; cases e
          | _ => simp [bmeth, q] at e
      · simp [bmeth] at e
    | _ => simp [bmeth] at e
  cases e1
  obtain ⟨w, rfl, r1⟩ := rs.one
  obtain ⟨a1, ws, rfl, hr, ha, rl⟩ := lsts_rd sr ra hn
  refine mt_append pins s σ H _ _ v us Q I rx rv ⟨a1, ws, w, rfl, rfl, ha, by rw [← rl.length]; exact hz, ?_⟩
  exact k ρ _ _ (sr.ext_write hr) (sr_list sr hr (rl.append (.cons r1 .nil))) (by simp)
theorem bmm_pop : MtM X "list.pop" (rM L .pop) := by
  intro pins s σ H x vs v us Q I rx rv h
  obtain ⟨ρ, S, a, ds, d, S', sr, ra, rs, e, k⟩ := h
  obtain ⟨n, y, xs, rfl, rfl, hn, hy, e1⟩ : ∃ n y xs, a = .ref n ∧ ds = [] ∧ S[n]? = some (.list xs) ∧ xs[xs.length - 1]? = some y ∧ (d, S') = (y, S.set n (.list xs.dropLast)) := by
    cases a with
    | ref n =>
      rcases ds with _ | ⟨y, t⟩
      · cases q : S[n]? with
        | none => simp [bmeth, q] at e
        | some c =>
          cases c with
          | list xs =>
            simp only [bmeth, q] at e
            cases q2 : xs[xs.length - 1]? with
            | none => rw [q2] at e; cases e
            | some y =>
              rw [q2] at e
              cases e
              exact ⟨n, _, xs, rfl, rfl, q, q2, rfl⟩
          | _ => simp [bmeth, q] at e
      · simp [bmeth] at e
    | _ => simp [bmeth] at e
  cases e1
  cases rs.zero
  obtain ⟨a1, ws, rfl, hr, ha, rl⟩ := lsts_rd sr ra hn
  obtain ⟨w, hw, rw'⟩ := rl.get hy
  refine mt_pop pins s σ H _ _ v us Q I rx rv ⟨a1, ws, w, rfl, rfl, ha, by rw [← rl.length]; exact hw, ?_⟩
  exact k ρ _ _ (sr.ext_write hr) (sr_list sr hr rl.dropLast) (RD.mono (sr.ext_write hr) _ _ rw')
theorem bmm_popAt : MtM X "list.pop" (rM L .popAt) := by
  intro pins s σ H x vs v us Q I rx rv h
  obtain ⟨ρ, S, a, ds, d, S', sr, ra, rs, e, k⟩ := h
  obtain ⟨n, i, y, xs, rfl, rfl, hn, h0, h1, hy, e1⟩ : ∃ n i y xs, a = .ref n ∧ ds = [.int i] ∧ S[n]? = some (.list xs) ∧ 0 ≤ i ∧ i < 2 ^ 62 ∧ xs[i.toNat]? = some y ∧ (d, S') = (y, S.set n (.list (xs.eraseIdx i.toNat))) := by
    cases a with
    | ref n =>
      rcases ds with _ | ⟨y, _ | ⟨z, t⟩⟩
      · simp [bmeth] at e
      · cases y with
        | int i =>
          cases q : S[n]? with
          | none => simp [bmeth, q] at e
          | some c =>
            cases c with
            | list xs =>
              simp only [bmeth, q] at e
              by_cases hz : 0 ≤ i ∧ i < 2 ^ 62
              · rw [if_pos hz] at e
                cases q2 : xs[i.toNat]? with
                | none => rw [q2] at e; cases e
                | some y =>
                  rw [q2] at e
                  cases e
                  exact ⟨n, i, _, xs, rfl, rfl, q, hz.1, hz.2, q2, rfl⟩
              · rw [if_neg hz] at e; cases e
            | _ => simp [bmeth, q] at e
        | _ => simp [bmeth] at e
      · cases y <;> simp [bmeth] at e
    | _ => simp [bmeth] at e
  cases e1
  obtain ⟨w, rfl, r1⟩ := rs.one
  simp only [RD_int] at r1
  subst r1
  obtain ⟨a1, ws, rfl, hr, ha, rl⟩ := lsts_rd sr ra hn
  obtain ⟨w, hw, rw'⟩ := rl.get hy
  have hlt : i.toNat < ws.length := (List.getElem?_eq_some_iff.mp hw).1
  have hix : seqIndex? i ws.length = some i.toNat := seqIndex_of h0 (by omega)
  refine mt_popAt pins s σ H _ _ v us Q I rx rv ⟨a1, ws, i, i.toNat, w, rfl, rfl, ha, by omega, by omega, hix, hw, ?_⟩
  exact k ρ _ _ (sr.ext_write hr) (sr_list sr hr (rl.erase _)) (RD.mono (sr.ext_write hr) _ _ rw')
theorem seqRd (hK : X.K = L.K) {pins : List (Addr × Obj)} {σ : L2.St} {ρ : Rho} {H : Hp} {S : Store} {s : Shared} (I : Inv X pins σ H s) (sr : SR L ρ S H) {a : D} {x : V} {xs : List D} (r : RD L ρ H a x) (h : listOf S a = some xs) : ∃ p ys, x = .ref p ∧ SqL X.K H p ys := by
  obtain ⟨a1, vs, rfl, hq, rs, z1, _⟩ := listOf_obj hK I sr r h
  exact ⟨a1, vs, rfl, by rw [hK]; exact hq⟩
theorem find_least {α : Type} {f : α → Bool} : ∀ {ds : List α} {i : Nat}, ds.findIdx? f = some i → ∃ z, ds[i]? = some z ∧ f z = true ∧ ∀ m z', m < i → ds[m]? = some z' → f z' = false
  | ds, i, h => by
    rw [List.findIdx?_eq_some_iff_getElem] at h
    obtain ⟨h1, h2, h3⟩ := h
    refine ⟨ds[i], List.getElem?_eq_getElem h1, h2, fun m z' hm hz => ?_⟩
    obtain ⟨hm', rfl⟩ := List.getElem?_eq_some_iff.mp hz
    have := h3 m hm
    simpa using this
theorem bmm_index (hK : X.K = L.K) (hu : X.A.units + 65 < cLine) : MtM X "list.index" (rM L .index) := by
  intro pins s σ H x vs v us Q I rx rv h
  obtain ⟨ρ, S, a, ds, d, S', sr, ra, rs, e, k⟩ := h
  rcases ds with _ | ⟨y, _ | ⟨z, t⟩⟩
  · simp [bmeth] at e
  · simp only [bmeth, Option.bind_eq_some_iff] at e
    obtain ⟨ps, ⟨xs, e1, e2⟩, p, e3, e4⟩ := e
    by_cases ok : SeqAt.shaped p = true ∧ SeqAt.shaped (.list ps) = true
    · rw [if_pos ok] at e4
      simp only [Option.map_eq_some_iff] at e4
      obtain ⟨i, e5, e6⟩ := e4
      cases e6
      obtain ⟨s1, s2⟩ := ok
      obtain ⟨w, rfl, r1⟩ := rs.one
      obtain ⟨a1, ws, rfl, hq, rs', z1, _⟩ := listOf_obj hK I sr ra e1
      obtain ⟨z, g1, g2, g3⟩ := find_least e5
      refine mt_indexD hu pins s σ H _ _ v us Q I rx rv ⟨a1, w, p, ps, i, z, rfl, rfl, .lst (by rw [hK]; exact hq) (by rw [hK]; exact dps_of xs ws ps rs' e2 (SeqAt.canLay_of_shaped s2)), by rw [hK]; exact dp_of y w p r1 e3 (SeqAt.canLay_of_shaped s1), s2, s1, g1, g2, g3, ?_⟩
      exact k ρ H _ (.refl _ _) sr (by simp)
    · rw [if_neg ok] at e4; cases e4
  · simp [bmeth] at e
theorem bmm_count (hK : X.K = L.K) (hu : X.A.units + 65 < cLine) : MtM X "list.count" (rM L .count) := by
  intro pins s σ H x vs v us Q I rx rv h
  obtain ⟨ρ, S, a, ds, d, S', sr, ra, rs, e, k⟩ := h
  rcases ds with _ | ⟨y, _ | ⟨z, t⟩⟩
  · simp [bmeth] at e
  · simp only [bmeth, Option.bind_eq_some_iff] at e
    obtain ⟨ps, ⟨xs, e1, e2⟩, p, e3, e4⟩ := e
    by_cases ok : SeqAt.shaped p = true ∧ SeqAt.shaped (.list ps) = true
    · rw [if_pos ok] at e4
      cases e4
      obtain ⟨s1, s2⟩ := ok
      obtain ⟨w, rfl, r1⟩ := rs.one
      obtain ⟨a1, ws, rfl, hq, rs', z1, its, n, rv2, ho⟩ := listOf_obj hK I sr ra e1
      cases rx
      obtain ⟨u, rfl, ru⟩ := rv.one
      obtain ⟨bs, rd⟩ := Dp.reads I p w u (by rw [hK]; exact dp_of y w p r1 e3 (SeqAt.canLay_of_shaped s1)) ru
      obtain ⟨as, rds⟩ := Dp.readsAll I ps ws its (by rw [hK]; exact dps_of xs ws ps rs' e2 (SeqAt.canLay_of_shaped s2)) rv2
      have c2 : PyData.canLayAll0 ps = true := SeqAt.canLay_of_shaped s2
      have hroom : X.A.units + 1 + min (PyData.depthAll ps) p.depth < cLine := room_in_shaped s1 hu
      refine call_meets PySem.F.slot_list_count ⟨_, ho, rfl⟩ PySem.F.entry_list_count (PySem.F.args_list_count_2 _ _)
        (SeqAt.list_countAt a1 its.toArray n none #[] u (fun z => PyData.eqv (SeqAt.readOf s.heap z) p)) ⟨ho, SeqAt.items_eqAt (vs := its.toArray) (show ReadsAll s.heap its.toArray.toList ps as from rds) rd c2 (SeqAt.canLay_of_shaped s1) hroom, ?_⟩
      refine ⟨.int _, H, I.tok _, ⟨_, rfl⟩, k ρ H _ (.refl _ _) sr ?_⟩
      simp only [RD_int]
      have hmap : its.map (SeqAt.readOf s.heap) = ps := SeqAt.readsAll_map ps its as c2 rds
      rw [← hmap, List.countP_map]
      rfl
    · rw [if_neg ok] at e4; cases e4
  · simp [bmeth] at e
theorem bmm_split : MtR X "str.split" (rM L .split) := by
  intro pins s σ H x vs v us Q I rx rv h
  obtain ⟨ρ, S, a, ds, d, S', sr, ra, rs, e, k⟩ := h
  obtain ⟨z, sep, rfl, rfl, hz, e1⟩ : ∃ z sep, a = .str z ∧ ds = [.str sep] ∧ (sep.length ≠ 0 ∧ z.length + 2 ≤ line) ∧ (d, S') = (.list ((Txt.split z sep).map .str), S) := by
    cases a with
    | str z =>
      rcases ds with _ | ⟨y, _ | ⟨z', t⟩⟩
      · simp [bmeth] at e
      · cases y with
        | str sep =>
          simp only [bmeth] at e
          by_cases hz : sep.length ≠ 0 ∧ z.length + 2 ≤ line
          · rw [if_pos hz] at e
            cases e
            exact ⟨z, sep, rfl, rfl, hz, rfl⟩
          · rw [if_neg hz] at e; cases e
        | _ => simp [bmeth] at e
      · cases y <;> simp [bmeth] at e
    | _ => simp [bmeth] at e
  cases e1
  obtain ⟨w, rfl, r1⟩ := rs.one
  simp only [RD_str] at ra r1
  subst ra r1
  refine mt_split pins s σ H _ _ v us Q I rx rv ⟨z, sep, rfl, rfl, beq_eq_false_iff_ne.mpr hz.1, hz.2, fun p hp => ?_⟩
  refine k ρ _ _ (sr.ext_new hp) (sr.new hp) ?_
  have e2 : RDs L ρ H ((Txt.split z sep).map D.str) ((Txt.split z sep).map V.str) := by
    induction Txt.split z sep with
    | nil => simpa using RDs.nil
    | cons x xs ih => simpa using RDs.cons (by simp) ih
  exact upd_list sr hp e2
end
section
variable {X : Cx} {L : Lk} {W : WX} {P : Prog} {Φ : Call} {pos apos : Pos} {o e : Expr} {ea : E} {es : List E} {xs : List Expr} {T id : String} {name : Str} {m : BM}
/-- the receiver's kind, seen -/
def TyOf (X : Cx) (L : Lk) (m : BM) (T : String) : Prop := ∀ (ρ : Rho) (S : Store) (H : Hp) (a : D) (x : V), SR L ρ S H → RD L ρ H a x → bmTy m S a = true → tyV X.K T x H
theorem tyOf_list (hK : X.K = L.K) (hm : m = .append ∨ m = .pop ∨ m = .popAt ∨ m = .index ∨ m = .count) : TyOf X L m "list" := by
  intro ρ S H a x sr r h
  have h' : (listOf S a).isSome = true := by rcases hm with rfl | rfl | rfl | rfl | rfl <;> exact h
  obtain ⟨xs, q⟩ := Option.isSome_iff_exists.mp h'
  cases a with
  | list ys =>
    simp only [RD] at r
    obtain ⟨a, vs, rfl, hl, rs⟩ := r
    exact .inl ⟨rfl, vs, by rw [hK]; exact hl.sq⟩
  | ref n =>
    unfold listOf deref at q
    cases q1 : S[n]? with
    | none => simp [q1] at q
    | some c =>
      cases c with
      | list ys =>
        obtain ⟨a, rfl, _, vs, ha, rs⟩ := sr.at r q1 (by simp)
        exact .inl ⟨rfl, vs, SqL.of ha⟩
      | _ => simp [q1] at q
  | _ => simp [listOf, deref] at q
theorem tyOf_str (hm : m = .split ∨ m = .join) : TyOf X L m "str" := by
  intro ρ S H a x sr r h
  rcases hm with rfl | rfl
  all_goals
    cases a with
    | str z =>
      simp only [RD_str] at r
      subst r
      exact rfl
    | _ => simp [bmTy] at h
theorem pm_bm0 (ty : TyOf X L m T) (pa : PlainAttrs T) (slot : Slot T name id) (hty : typeOf (.builtin id) = pure (.type "method_descriptor")) (hm : MtR X id (rM L m)) (ho : PE X o (tE L W (ev P Φ ea)))
    (hbase : attributeBase o name X.env (eval o X.env) = eval o X.env) (hline : (apos.endLine == pos.line) = true) : PE X (.Call (.Attribute o name apos) [] [] pos) (tE L W (ev P Φ (.bm m ea []))) := by
  refine (pe_bm0 pa slot hty hm ho hbase hline).imp fun σ H Q ⟨ρ, S, η, sr, er, po⟩ => ?_
  unfold ev at po
  refine first sr er po fun x H1 ⟨ρ1, S1, d, x1, s1, r1, p1⟩ => ?_
  obtain ⟨g, p1⟩ := p1.grdS
  refine ⟨ty ρ1 S1 H1 d x s1 r1 g, ?_⟩
  unfold evs at p1
  obtain ⟨d2, S2, e2, k⟩ := Post.eff (f := fun S => bmeth m d S []) p1
  exact ⟨ρ1, S1, d, [], d2, S2, s1, r1, .nil, e2, k⟩
theorem pm_bm (ty : TyOf X L m T) (pa : PlainAttrs T) (slot : Slot T name id) (hty : typeOf (.builtin id) = pure (.type "method_descriptor")) (hm : MtR X id (rM L m)) (ho : PE X o (tE L W (ev P Φ ea))) (ha : PA X (e :: xs) (tA L W (evs P Φ es)))
    (hbase : attributeBase o name X.env (eval o X.env) = eval o X.env)
    (hfew : ((backTo pos (starEach (e :: xs) X.env)).all (fun x => !x.1) && (backToKw pos (keywordEach [] X.env)).all (fun x => x.1.isSome)
      && decide ((e :: xs).length + ([] : List Keyword).length + (if ([] : List Keyword).isEmpty then 0 else 1) < 30)) = true)
    (hline : (apos.endLine == pos.line) = true) (hs : starEach (e :: xs) X.env = (false, eval e X.env) :: starEach xs X.env) (hplain : (backTo pos (starEach xs X.env)).any (·.1) = false) :
    PE X (.Call (.Attribute o name apos) (e :: xs) [] pos) (tE L W (ev P Φ (.bm m ea es))) := by
  refine (pe_bm pa slot hty hm ho ha hbase hfew hline hs hplain).imp fun σ H Q ⟨ρ, S, η, sr, er, po⟩ => ?_
  unfold ev at po
  refine first sr er po fun x H1 ⟨ρ1, S1, d, x1, s1, r1, p1⟩ => ?_
  obtain ⟨g, p1⟩ := p1.grdS
  refine ⟨ty ρ1 S1 H1 d x s1 r1 g, ?_⟩
  refine first s1 (er.mono x1) p1 fun vs H2 ⟨ρ2, S2, ds, x2, s2, r2, p2⟩ => ?_
  obtain ⟨d2, S3, e2, k⟩ := Post.eff p2
  exact ⟨ρ2, S2, d, ds, d2, S3, s2, RD.mono x2 _ _ r1, r2, e2, k⟩
end
end Mi
set_option Elab.async false
set_option linter.all false
set_option maxHeartbeats 1000000
namespace Mi
open PySem PySem.Spec PyProof.Rows L2
theorem lookup_app {α : Type} (n : Str) : ∀ (a b : List (Str × α)), (a ++ b).lookup n = (a.lookup n).or (b.lookup n)
  | [], b => by simp
  | (m, v) :: a, b => by
    by_cases h : n = m
    · subst h; simp
    · have hb : (n == m) = false := beq_eq_false_iff_ne.mpr h
      simp [List.lookup, hb, lookup_app n a b]
theorem lookup_none {α : Type} {n : Str} : ∀ {a : List (Str × α)}, n ∉ a.map (·.1) → a.lookup n = none
  | [], _ => rfl
  | (m, v) :: a, h => by
    have h1 : n ≠ m := fun e => h (by simp [e])
    have hb : (n == m) = false := beq_eq_false_iff_ne.mpr h1
    simp only [List.lookup, hb]
    exact lookup_none fun k => h (by simp only [List.map_cons, List.mem_cons]; exact .inr k)
theorem zip_fst {α : Type} : ∀ (ks : List Str) (ws : List α), ∀ n, n ∈ (ks.zip ws).map (·.1) → n ∈ ks
  | [], _, n, h => by simp at h
  | k :: ks, [], n, h => by simp at h
  | k :: ks, w :: ws, n, h => by
    simp only [List.zip_cons_cons, List.map_cons, List.mem_cons] at h
    rcases h with h | h
    · exact List.mem_cons.mpr (.inl h)
    · exact List.mem_cons_of_mem _ (zip_fst ks ws n h)
theorem zip_take {α : Type} : ∀ (ks : List Str) (ws : List α), (ks.zip ws).map (·.1) = ks.take ws.length
  | [], _ => by simp
  | k :: ks, [] => by simp
  | k :: ks, w :: ws => by simp [zip_take ks ws]
theorem lookup_zip {α : Type} : ∀ {ps : List Str} {us : List α} {i : Nat} {n : Str} {u : α}, ps.Nodup → ps[i]? = some n → us[i]? = some u → (ps.zip us).lookup n = some u
  | [], _, i, n, u, _, h, _ => by simp at h
  | p :: ps, [], i, n, u, _, _, h => by simp at h
  | p :: ps, v :: us, 0, n, u, _, h1, h2 => by
    simp at h1 h2
    subst h1 h2
    simp [List.lookup]
  | p :: ps, v :: us, i + 1, n, u, nd, h1, h2 => by
    simp at h1 h2
    have nd' := List.nodup_cons.mp nd
    have hne : n ≠ p := fun e => nd'.1 (by rw [← e]; exact List.mem_of_getElem? h1)
    have hb : (n == p) = false := beq_eq_false_iff_ne.mpr hne
    simp only [List.zip_cons_cons, List.lookup, hb]
    exact lookup_zip nd'.2 h1 h2
/-- what the names are bound to in the end -/
theorem binds_of {slots : List (Str × Value)} : ∀ {ps : List Str} {vs : List Value}, ps.length = vs.length → (∀ (i : Nat) (n : Str) (v : Value), ps[i]? = some n → vs[i]? = some v → slots.lookup n = some v) → ps.filterMap (fun n => (slots.lookup n).map (fun x => (n, x))) = ps.zip vs
  | [], [], _, _ => rfl
  | p :: ps, v :: vs, hl, h => by
    have h0 := h 0 p v rfl rfl
    simp only [List.filterMap_cons, h0, Option.map_some, List.zip_cons_cons]
    congr 1
    exact binds_of (by simpa using hl) fun i n v a b => h (i + 1) n v (by simpa using a) (by simpa using b)
theorem fill_get {α : Type} {ks : List Str} {zs : List α} : ∀ {l : List (Str × Option α)} {r : List α}, fillB ks zs l = some r → r.length = l.length ∧ ∀ (i : Nat) (p : Str) (d : Option α), l[i]? = some (p, d) → ((ks.zip zs).lookup p).or d = r[i]?
  | [], r, h => by
    simp only [fillB, Option.some.injEq] at h
    subst h
    exact ⟨rfl, fun i p d e => by simp at e⟩
  | (p, d) :: l, r, h => by
    unfold fillB at h
    cases q1 : ((ks.zip zs).lookup p).or d with
    | none => rw [q1] at h; cases h
    | some v =>
      cases q2 : fillB ks zs l with
      | none => rw [q1, q2] at h; cases h
      | some vs =>
        rw [q1, q2] at h
        cases h
        obtain ⟨h1, h2⟩ := fill_get q2
        refine ⟨by simp [h1], fun i p' d' e => ?_⟩
        cases i with
        | zero => simp at e; obtain ⟨rfl, rfl⟩ := e; simpa using q1
        | succ i => simpa using h2 i p' d' (by simpa using e)
/-- a def's form: plain parameters ps, maybe one that takes the rest -/
structure PlainD (fd : FuncData) (ps : List Str) (pv : Option Str) : Prop where
  po : fd.params.posonlyargs = []
  ko : fd.params.kwonlyargs = []
  kw : fd.params.kwarg = none
  ar : fd.params.args.map (·.arg) = ps
  va : fd.params.vararg.map (·.arg) = pv
theorem kw_loop {M : Model} {A : Around} {E : Value → Shared → Prop} {s : Shared} {ps : List Str} {f : Str × Value → List (Str × Value) × List (Str × Value) → Sem (ForInStep (List (Str × Value) × List (Str × Value)))}
    {Q : List (Str × Value) × List (Str × Value) → Shared → Prop} (hf : ∀ x b, x.1 ∈ ps → b.1.lookup x.1 = none → f x b = pure (.yield (b.1 ++ [x], b.2))) : ∀ {kw : List (Str × Value)} {sl : List (Str × Value)},
    (kw.map (·.1)).Nodup → (∀ x ∈ kw, x.1 ∈ ps ∧ sl.lookup x.1 = none) → Q (sl ++ kw, []) s → wpAny M A (forIn kw (sl, []) f) Q E s
  | [], sl, _, _, h => by
    rw [List.forIn_nil]
    exact wpAny_pure (by simpa using h)
  | x :: kw, sl, nd, hx, h => by
    rw [List.forIn_cons, hf x _ (hx x (List.mem_cons_self ..)).1 (hx x (List.mem_cons_self ..)).2]
    have nd' := List.nodup_cons.mp (show (x.1 :: kw.map (·.1)).Nodup from nd)
    refine wpAny_bind (wpAny_pure ?_)
    refine kw_loop hf nd'.2 (fun y hy => ⟨(hx y (List.mem_cons_of_mem _ hy)).1, ?_⟩) (by simpa using h)
    rw [lookup_app, (hx y (List.mem_cons_of_mem _ hy)).2]
    refine lookup_none fun k => ?_
    simp only [List.map_cons, List.map_nil, List.mem_singleton] at k
    refine nd'.1 ?_
    rw [← k]
    exact List.mem_map.mpr ⟨y, hy, rfl⟩
theorem dfl_loop {M : Model} {A : Around} {E : Value → Shared → Prop} {s : Shared} {f : Str × Value → List (Str × Value) → Sem (ForInStep (List (Str × Value)))} {Q : List (Str × Value) → Shared → Prop}
    (hf : ∀ x b, f x b = if (b.lookup x.1).isNone = true then pure (.yield (b ++ [x])) else pure (.yield b)) : ∀ {l : List (Str × Value)} {sl : List (Str × Value)},
    (∀ sl', (∀ n, sl'.lookup n = (sl.lookup n).or (l.lookup n)) → Q sl' s) → wpAny M A (forIn l sl f) Q E s
  | [], sl, h => by
    rw [List.forIn_nil]
    exact wpAny_pure (h sl fun n => by simp)
  | x :: l, sl, h => by
    rw [List.forIn_cons, hf]
    have key : ∀ sl2 : List (Str × Value), (∀ n, sl2.lookup n = (sl.lookup n).or ([x].lookup n)) → wpAny M A (forIn l sl2 f) Q E s := fun sl2 h2 => dfl_loop hf fun sl' h' => h sl' fun n => by
      rw [h', h2, Option.or_assoc, ← lookup_app]
      rfl
    cases q : sl.lookup x.1 with
    | none =>
      simp only [Option.isNone_none, if_true]
      exact wpAny_bind (wpAny_pure (key _ fun n => lookup_app n _ _))
    | some v =>
      simp only [Option.isNone_some, Bool.false_eq_true, if_false]
      refine wpAny_bind (wpAny_pure (key _ fun n => ?_))
      by_cases e : n = x.1
      · subst e; rw [q]; rfl
      · have hb : (n == x.1) = false := beq_eq_false_iff_ne.mpr e
        simp [List.lookup, hb]
theorem bind_plain {M : Model} {A : Around} {E : Value → Shared → Prop} {s : Shared} {fd : FuncData} {ps : List Str} {us ws its rest : List Value} {ks : List Str} {Q : List (Str × Value) → Shared → Prop} (P : PlainD fd ps none)
    (hd : ∀ (Q' : Option (Array Value) → Shared → Prop), (∀ o, (o.getD #[]).toList = its → Q' o s) → wpAny M A (seqItems? fd.defaults) Q' E s)
    (h1 : us.length ≤ ps.length) (h2 : ks.length = ws.length) (h3 : its.length ≤ ps.length) (nd : ps.Nodup) (nk : ks.Nodup) (hk : ∀ k ∈ ks, k ∈ ps.drop us.length) (hf : fillB ks ws ((withDfl ps its).drop us.length) = some rest)
    (h : Q (ps.zip (us ++ rest)) s) : wpAny M A (bindArgs fd ⟨us, ks.zip ws⟩) Q E s := by
  obtain ⟨e1, e2, e3, e4, e5⟩ := P
  have e6 : fd.params.vararg = none := by
    cases q : fd.params.vararg with
    | none => rfl
    | some a => rw [q] at e5; cases e5
  have lw : (withDfl ps its).length = ps.length := by
    unfold withDfl
    simp
    omega
  obtain ⟨l1, g1⟩ := fill_get hf
  rw [List.length_drop, lw] at l1
  -- the names behind the written ones
  have later : ∀ (i : Nat) (n : Str), us.length ≤ i → ps[i]? = some n → (ps.zip us).lookup n = none := by
    intro i n hi hn
    refine lookup_none fun k => ?_
    rw [zip_take] at k
    obtain ⟨j, hj, ej⟩ := List.mem_take_iff_getElem.mp k
    have : i = j := by
      obtain ⟨hi', ei⟩ := List.getElem?_eq_some_iff.mp hn
      exact (List.getElem_inj (h₀ := hi') (h₁ := by omega) nd).mp (by rw [ei, ej])
    omega
  have kfst : (ks.zip ws).map (·.1) = ks := by
    rw [zip_take, ← h2, List.take_length]
  unfold bindArgs
  simp only [e1, e2, e3, e4, e6, List.map_nil, List.nil_append, List.append_nil]
  refine wpAny_bind (kw_loop (ps := ps) (fun x b hx hb => ?_) (by rw [kfst]; exact nk) (fun x hx => ?_) ?_)
  · have hc : (ps.contains x.fst || ([] : List Str).contains x.fst) = true := by simp [hx]
    have hn : ¬ ((List.lookup x.fst b.fst).isSome = true) := by rw [hb]; simp
    rw [if_pos hc, if_neg hn]
  · have hx1 : x.1 ∈ ks := by rw [← kfst]; exact List.mem_map.mpr ⟨x, hx, rfl⟩
    have hx2 := hk _ hx1
    refine ⟨List.mem_of_mem_drop hx2, ?_⟩
    obtain ⟨j, hj, ej⟩ := List.mem_iff_getElem.mp hx2
    refine later (us.length + j) _ (by omega) ?_
    rw [← ej, List.getElem_drop]
    exact List.getElem?_eq_getElem _
  · refine wpAny_bind (hd _ fun o ho => ?_)
    rw [ho]
    have d0 : its.drop (its.length - ps.length) = its := by
      have : its.length - ps.length = 0 := by omega
      rw [this, List.drop_zero]
    rw [d0]
    have c1 : ¬ ((decide (us.length > ps.length) && (none : Option Arg).isNone) = true) := by
      simp
      omega
    rw [if_neg c1]
    -- the end
    have slots : ∀ (sl : List (Str × Value)), (∀ n, sl.lookup n = ((ps.zip us ++ ks.zip ws).lookup n).or (((ps.drop (ps.length - its.length)).zip its).lookup n)) → ∀ (i : Nat) (n : Str) (v : Value), ps[i]? = some n → (us ++ rest)[i]? = some v → sl.lookup n = some v := by
      intro sl hsl i n v hn hv
      rw [hsl, lookup_app]
      by_cases hi : i < us.length
      · rw [List.getElem?_append_left hi] at hv
        rw [lookup_zip nd hn hv]
        rfl
      · rw [later i n (by omega) hn]
        rw [List.getElem?_append_right (by omega)] at hv
        have hil : i < ps.length := (List.getElem?_eq_some_iff.mp hn).1
        have key : ∀ d : Option Value, (withDfl ps its)[i]? = some (n, d) → ((ks.zip ws).lookup n).or d = some v := by
          intro d hd'
          rw [g1 (i - us.length) n d (by rw [List.getElem?_drop, show us.length + (i - us.length) = i by omega]; exact hd'), hv]
        unfold withDfl at key
        by_cases hj : i < ps.length - its.length
        · have z := key none (by
            rw [List.getElem?_zip_eq_some]
            refine ⟨hn, ?_⟩
            rw [List.getElem?_append_left (by simpa using hj)]
            simp [hj])
          rw [Option.or_none] at z
          simp [z]
        · have hx : i - (ps.length - its.length) < its.length := by omega
          have z := key (some its[i - (ps.length - its.length)]) (by
            rw [List.getElem?_zip_eq_some]
            refine ⟨hn, ?_⟩
            rw [List.getElem?_append_right (by simp; omega)]
            simp [hx])
          have w : ((ps.drop (ps.length - its.length)).zip its).lookup n = some its[i - (ps.length - its.length)] := by
            refine lookup_zip (i := i - (ps.length - its.length)) (nd.sublist (List.drop_sublist ..)) ?_ (List.getElem?_eq_getElem hx)
            rw [List.getElem?_drop, show ps.length - its.length + (i - (ps.length - its.length)) = i by omega]
            exact hn
          rw [w]
          simpa using z
    have hlen : ps.length = (us ++ rest).length := by rw [List.length_append, l1]; omega
    have c2 : ¬ ((!(((ps.take (ps.length - its.length)).filter fun n => (List.lookup n (ps.zip us ++ ks.zip ws)).isNone)).isEmpty) = true) := by
      rw [Bool.not_eq_true', Bool.not_eq_false]
      rw [List.isEmpty_iff, List.filter_eq_nil_iff]
      intro n hn
      obtain ⟨j, hj, ej⟩ := List.mem_take_iff_getElem.mp hn
      have hn' : ps[j]? = some n := by rw [← ej]; exact List.getElem?_eq_getElem _
      have hj2 : j < (us ++ rest).length := by rw [← hlen]; omega
      have z := slots (ps.zip us ++ ks.zip ws ++ (ps.drop (ps.length - its.length)).zip its) (fun n => lookup_app n _ _) j n _ hn' (List.getElem?_eq_getElem hj2)
      rw [lookup_app] at z
      cases q : List.lookup n (ps.zip us ++ ks.zip ws) with
      | some v => simp
      | none =>
        exfalso
        rw [q, Option.none_or] at z
        have : List.lookup n ((ps.drop (ps.length - its.length)).zip its) = none := by
          refine lookup_none fun k => ?_
          have k2 := zip_fst _ _ _ k
          obtain ⟨m, hm, em⟩ := List.mem_iff_getElem.mp k2
          rw [List.getElem_drop] at em
          have : j = ps.length - its.length + m := (List.getElem_inj (h₀ := by omega) (h₁ := by simp at hm; omega) nd).mp (by rw [ej, em])
          omega
        rw [this] at z
        cases z
    rw [if_neg c2]
    refine wpAny_bind (dfl_loop (fun x b => rfl) fun sl' hsl => ?_)
    rw [List.forIn_nil]
    refine wpAny_bind (wpAny_pure ?_)
    rw [if_neg (by simp)]
    refine wpAny_pure ?_
    rw [binds_of hlen (slots sl' hsl)]
    exact h
theorem bind_star {M : Model} {A : Around} {E : Value → Shared → Prop} {s : Shared} {fd : FuncData} {ps : List Str} {pv : Str} {us rest : List Value} {Q : List (Str × Value) → Shared → Prop} (P : PlainD fd ps (some pv))
    (hd : ∀ (Q' : Option (Array Value) → Shared → Prop), (∀ o, (o.getD #[]).toList = [] → Q' o s) → wpAny M A (seqItems? fd.defaults) Q' E s)
    (h1 : us.length = ps.length) (nd : ps.Nodup) (h : wpAny M A (newTuple rest) (fun t s' => Q (ps.zip us ++ [(pv, t)]) s') E s) : wpAny M A (bindArgs fd ⟨us ++ rest, []⟩) Q E s := by
  obtain ⟨e1, e2, e3, e4, e5⟩ := P
  obtain ⟨a, e6, rfl⟩ := Option.map_eq_some_iff.mp e5
  have hz : ps.zip (us ++ rest) = ps.zip us := by
    rw [← List.append_nil ps, List.zip_append h1.symm]
    simp
  unfold bindArgs
  simp only [e1, e2, e3, e4, e6, List.map_nil, List.nil_append, List.append_nil, hz]
  rw [List.forIn_nil]
  refine wpAny_bind (wpAny_pure ?_)
  refine wpAny_bind (hd _ fun o ho => ?_)
  rw [ho]
  rw [if_neg (by simp)]
  have slots : ∀ (sl : List (Str × Value)), (∀ n, sl.lookup n = ((ps.zip us).lookup n).or ((([] : List (Str × Value))).lookup n)) → ∀ (i : Nat) (n : Str) (v : Value), ps[i]? = some n → us[i]? = some v → sl.lookup n = some v := by
    intro sl hsl i n v hn hv
    rw [hsl, lookup_zip nd hn hv]
    rfl
  have c2 : ¬ ((!(((ps.take (ps.length - (([] : List Value).drop (([] : List Value).length - ps.length)).length)).filter fun n => (List.lookup n (ps.zip us)).isNone)).isEmpty) = true) := by
    rw [Bool.not_eq_true', Bool.not_eq_false]
    rw [List.isEmpty_iff, List.filter_eq_nil_iff]
    intro n hn
    obtain ⟨j, hj, ej⟩ := List.mem_iff_getElem.mp (List.mem_of_mem_take hn)
    have z := lookup_zip nd (List.getElem?_eq_some_iff.mpr ⟨hj, ej⟩) (List.getElem?_eq_getElem (l := us) (i := j) (by omega))
    simp [z]
  rw [if_neg c2]
  refine wpAny_bind (dfl_loop (fun x b => rfl) fun sl' hsl => ?_)
  rw [List.forIn_nil]
  refine wpAny_bind (wpAny_pure ?_)
  rw [if_neg (by simp)]
  have hsl' : ∀ n, sl'.lookup n = ((ps.zip us).lookup n).or ((([] : List (Str × Value))).lookup n) := fun n => by
    rw [hsl]
    simp
  have hdrop : (us ++ rest).drop ps.length = rest := by rw [← h1]; simp
  rw [hdrop, binds_of h1.symm (slots sl' hsl')]
  refine wpAny_bind (wpAny_mono h (fun t s' q => ?_) fun e s' q => q)
  exact wpAny_pure q
end Mi
set_option Elab.async false
set_option linter.all false
set_option maxHeartbeats 1000000
namespace Mi
open PySem PySem.Spec PyProof.Rows L2
abbrev EIs {α β : Type} (R : α → β → Prop) := PySem.W.EachIs R
/-- what is left for calls n deep -/
structure RoomM (n : Nat) (A : Around) : Prop where
  hd : A.handled = none
  gu : A.guards = some []
  dp : A.depth + 3 * n + 5 < recursionLimit
  un : A.units + 16 * n + 200 < cLine
theorem RoomM.mono {j k : Nat} {A : Around} (r : RoomM k A) (h : j ≤ k) : RoomM j A := ⟨r.hd, r.gu, by have := r.dp; omega, by have := r.un; omega⟩
theorem RoomM.deeper {k : Nat} {A : Around} (r : RoomM (k + 1) A) (env : PySem.Env) : RoomM k (A.deeper env) :=
  ⟨r.hd, r.gu, by have := r.dp; show A.depth + 1 + 3 * k + 5 < _; omega, by have := r.un; show A.units + 3 + 16 * k + 200 < _; omega⟩
theorem RoomM.in1 {k : Nat} {A : Around} (r : RoomM (k + 1) A) : RoomM k A.in1 :=
  ⟨r.hd, r.gu, by have := r.dp; show A.depth + 3 * k + 5 < _; omega, by have := r.un; show A.units + 1 + 16 * k + 200 < _; omega⟩
theorem RoomM.room {k : Nat} {A : Around} (r : RoomM k A) : Room k A := ⟨r.hd, r.dp, r.un⟩
theorem RoomM.make {k : Nat} {A : Around} (r : RoomM (k + 1) A) (C : Addr) (us : List Value) (kw : List (Str × Value)) : RoomM k (A.under (.builtin "type.__call__" ⟨.ref C :: us, kw⟩)) := by
  have h := r.room.make C us kw
  exact ⟨h.hd, by first | exact r.gu | (simpa [Around.under] using r.gu), h.dp, h.un⟩
/-- what every function of Mini keeps when it is called with n levels to go -/
def FnM (prog : Program) (w : World) (mg : Str → Option Value) (base : Heap) (L : Lk) (P : Prog) (fa : Nat → Addr) (Φ : Call) (n : Nat) : Prop :=
  ∀ (f : Nat) (A : Around) (outer : List PySem.Env) (s : Shared) (H : Hp) (us ws : List Value) (ks : List Str) (ds es : List D) (ρ : Rho) (S : Store) (Q : VK) (E : XK), RoomM (2 * n) A → Env0 prog w L.K mg base A outer s H →
    EIs (Stands L ρ H) us ds → EIs (Stands L ρ H) ws es → SR L ρ S H → Post L (fun c d _ H => E c d H) [] ρ H (RD L) Q (callM P Φ f ds ks es S) →
    codeAny (model prog w) A (.call (.ref (fa f)) ⟨us, ks.zip ws⟩) (L2.CR (L2.CX prog w) outer prog w H s Q E) s
section
variable {X : Cx} {L : Lk} {W : WX} {P : Prog} {Φ : Call} {fa : Nat → Addr} {n : Nat} {pins : List (Addr × Obj)} {σ : L2.St} {ρ : Rho} {H : Hp} {S : Store} {s : Shared} {Q : VK}
theorem Post.toE {r : Res D} (h : Post L W σ ρ H (RD L) Q r) : Post L (fun c d _ H => W c d σ H) [] ρ H (RD L) Q r := by
  cases r with
  | ok a S' => exact h
  | exc e S' => exact h
  | bad => exact h
/-- behind such a call -/
theorem after_m (hx : ∀ e s', L2.CX X.prog X.w X.stack H s (WE W σ) e s' → X.xe e s') (I : Inv X pins σ H s) {r : Result} {s' : Shared} (h : L2.CR (L2.CX X.prog X.w) X.stack X.prog X.w H s Q (WE W σ) r s') : (match r with
    | .error e => X.xe e s'
    | .ok fl => match fl with
      | .ret u => EP X pins σ Q u s'
      | _ => False) := by
  cases r with
  | error e => exact hx e s' h
  | ok fl =>
    cases fl with
    | ret u => exact I.after h
    | next => exact h
    | brk => exact h
    | cont => exact h
theorem run_m {f : Nat} {us ws : List Value} {ks : List Str} {ds es : List D} (F : FnM X.prog X.w X.mg X.base L P fa Φ n) (hK : X.K = L.K) (hr : RoomM (2 * n + 1) X.A) (tk : Takes X W) (I : Inv X pins σ H s) (r1 : EIs (Stands L ρ H) us ds) (r2 : EIs (Stands L ρ H) ws es) (sr : SR L ρ S H)
    (h : Post L W σ ρ H (RD L) Q (callM P Φ f ds ks es S)) : wpAny (model X.prog X.w) X.A (call (.ref (fa f)) us (ks.zip ws)) (EP X pins σ Q) X.xe s := by
  have e0 := I.env0
  rw [hK] at e0
  refine wpAny_call (codeAny_mono (F f X.A X.stack s H us ws ks ds es ρ S Q (WE W σ) (hr.mono (Nat.le_succ _)) e0 r1 r2 sr h.toE) fun r s' hq => ?_)
  have z := after_m (fun e s' c => passAt tk σ pins H s e s' I c) I hq
  cases r with
  | error e => exact z
  | ok fl =>
    cases fl with
    | ret u => exact z
    | next => exact z.elim
    | brk => exact z.elim
    | cont => exact z.elim
/-- what is called stays what it is while the arguments are worked out -/
structure Kept (X : Cx) (pins : List (Addr × Obj)) (σ : L2.St) (f : Value) : Prop where
  ex : ∃ KP : Heap → Prop, (∀ h, KP h → ∃ k, (k = Keeper.frame ∨ k = Keeper.machine ∨ k = Keeper.boundFrame) ∧ PySem.W.Looks (model X.prog X.w) h (keeperOf f) k) ∧ ∀ H s, Inv X pins σ H s → KP s.heap
theorem kept_K {f : Value} (hk : PySem.W.keepIn X.K f = true) : Kept X pins σ f := ⟨⟨_, PySem.W.keeps_K hk, fun H s I => I.kIn⟩⟩
theorem kept_M {q g : Addr} {self : Value} (hf : PySem.W.fnIn X.K g = true) : Kept X ((q, PySem.W.methodObj (.ref g) self) :: pins) σ (.ref q) := ⟨⟨_, PySem.W.keeps_M (self := self) hf, fun H s I => ⟨ClX.pin_at I, I.kIn⟩⟩⟩
/-- the arguments of a call as they are written: es, kws (names ks) -/
def Sh (X : Cx) (pos : Pos) (es : List Expr) (kws : List Keyword) (ks : List Str) (t tk : TA) : Prop := ∀ (f : Value) (first : List Value) (pins : List (Addr × Obj)) (s : Shared) (σ : L2.St) (H : Hp) (Q : Value → Shared → Prop), Kept X pins σ f → Inv X pins σ H s →
  (t σ H fun vs H1 => tk σ H1 fun zs H2 => ∀ (us ws : List Value) (s2 : Shared), Inv X pins σ H2 s2 → Vals vs us → Vals zs ws → wpAny (model X.prog X.w) X.A (call f (first ++ us) (ks.zip ws)) Q X.xe s2) →
  wpAny (model X.prog X.w) X.A (callWith pos f first (backTo pos (starEach es X.env)) (backToKw pos (keywordEach kws X.env))) Q X.xe s
section
variable {pos sp_ : Pos} {e : Expr} {es : List Expr} {kws : List Keyword} {ks : List Str} {t tk : TA} {te : TE}
theorem sh_0 : Sh X pos [] [] [] tNil tNil := fun f first pins s σ H Q hk I h => by
  obtain ⟨KP, h1, h2⟩ := hk.ex
  exact PySem.W.callWith_of (P := KP) rfl h1 (PyProof.Rows.evalArgs_nil3 ⟨h2 _ _ I, by simpa using h [] [] s I .nil .nil⟩)
theorem sh_p (ha : PA X (e :: es) t) (he : starEach (e :: es) X.env = (false, eval e X.env) :: starEach es X.env) (hpl : (backTo pos (starEach es X.env)).any (·.1) = false) : Sh X pos (e :: es) [] [] t tNil := fun f first pins s σ H Q hk I h => by
  obtain ⟨KP, h1, h2⟩ := hk.ex
  have z := ha.run pos pins s σ H _ I h
  show wpAny _ _ (callWith pos f first (backTo pos (starEach (e :: es) X.env)) []) _ _ _
  rw [he] at z ⊢
  refine PySem.W.callWith_of (P := KP) (by show ((false || (backTo pos (starEach es X.env)).any (·.1)) || false) = false; rw [hpl]; rfl) h1 (Calls.evalArgs_plain (thn z fun us s1 ⟨vs, H1, I1, r, q⟩ => ⟨h2 _ _ I1, by simpa using q us [] s1 I1 r .nil⟩))
theorem sh_s2 (ha : PA X (e :: es) t) (he : starEach (e :: es) X.env = (false, eval e X.env) :: starEach es X.env) (hst : (backTo pos (starEach es X.env)).any (·.1) = true) : Sh X pos (e :: es) [] [] t tNil := fun f first pins s σ H Q hk I h => by
  obtain ⟨KP, h1, h2⟩ := hk.ex
  have z := ha.run pos pins s σ H _ I h
  show wpAny _ _ (callWith pos f first (backTo pos (starEach (e :: es) X.env)) []) _ _ _
  rw [he] at z ⊢
  exact PySem.W.ks_call (P := KP) (by show (false || (backTo pos (starEach es X.env)).any (·.1)) = true; rw [hst]; rfl) h1 (Calls.evalArgs_plain (thn z fun us s1 ⟨vs, H1, I1, r, q⟩ => ⟨h2 _ _ I1, by simpa using q us [] s1 I1 r .nil⟩))
theorem sh_s (he : PE X e te) (hst : starEach [.Starred e sp_] X.env = [(true, eval e X.env)]) : Sh X pos [.Starred e sp_] [] [] (fun σ H Q => te σ H fun y H1 => ∃ a xs, y = V.ref a ∧ (SqT X.K H1 a xs ∨ SqL X.K H1 a xs) ∧ Q xs H1) tNil := fun f first pins s σ H Q hk I h => by
  obtain ⟨KP, h1, h2⟩ := hk.ex
  show wpAny _ _ (callWith pos f first (backTo pos (starEach [.Starred e sp_] X.env)) []) _ _ _
  rw [hst]
  refine PySem.W.ks_call (P := KP) rfl h1 (PySem.W.ks_lone (thn (he.run pins s σ H _ I h) fun v s1 ⟨y, H1, I1, ry, a, xs, ey, hxs, q⟩ => ?_))
  subst ey
  obtain rfl : v = Value.ref a := ry
  exact StX.star_any I1 hxs fun us s2 I2 rv => ⟨h2 _ _ I2, by simpa using q us [] s2 I2 rv .nil⟩
theorem sh_kw (ha : PA X (e :: es) t) (hkw : PK X kws tk) (hall : (backToKw pos (keywordEach kws X.env)).all (·.1.isSome) = true) (hks : (backToKw pos (keywordEach kws X.env)).filterMap (·.1) = ks) (he : starEach (e :: es) X.env = (false, eval e X.env) :: starEach es X.env)
    (hpl : ((backTo pos (starEach (e :: es) X.env)).any (·.1) || (backToKw pos (keywordEach kws X.env)).any (·.1.isNone)) = false) : Sh X pos (e :: es) kws ks t tk := fun f first pins s σ H Q hk I h => by
  obtain ⟨KP, h1, h2⟩ := hk.ex
  refine PySem.W.callWith_of (P := KP) hpl h1 (PyProof.Rows.evalArgs_kw2 hall (thn (ha.run pos pins s σ H _ I h) fun us s1 ⟨vs, H1, I1, r, q⟩ => ?_) he)
  refine thn (hkw.run pos pins s1 σ H1 _ I1 q) fun ws s2 ⟨zs, H2, I2, rz, q2⟩ => ⟨h2 _ _ I2, ?_⟩
  rw [hks]
  exact q2 us ws s2 I2 r rz
theorem sh_kw0 (hkw : PK X kws tk) (hall : (backToKw pos (keywordEach kws X.env)).all (·.1.isSome) = true) (hks : (backToKw pos (keywordEach kws X.env)).filterMap (·.1) = ks)
    (hpl : ((backTo pos (starEach [] X.env)).any (·.1) || (backToKw pos (keywordEach kws X.env)).any (·.1.isNone)) = false) : Sh X pos [] kws ks tNil tk := fun f first pins s σ H Q hk I h => by
  obtain ⟨KP, h1, h2⟩ := hk.ex
  refine PySem.W.callWith_of (P := KP) hpl h1 (PyProof.Rows.evalArgs_kw2_nil hall ?_)
  refine thn (hkw.run pos pins s σ H _ I h) fun ws s2 ⟨zs, H2, I2, rz, q2⟩ => ⟨h2 _ _ I2, ?_⟩
  rw [hks]
  exact q2 [] ws s2 I2 .nil rz
theorem Sh.imp {t' tk' : TA} (h : Sh X pos es kws ks t tk) (f : ∀ σ H Q, t' σ H Q → t σ H Q) (g : ∀ σ H Q, tk' σ H Q → tk σ H Q) (mono : ∀ σ H Q Q', (∀ x H, Q x H → Q' x H) → t' σ H Q → t' σ H Q') : Sh X pos es kws ks t' tk' := fun u first pins s σ H Q hk I w =>
  h u first pins s σ H Q hk I (f _ _ _ (mono _ _ _ _ (fun x H1 q => g _ _ _ q) w))
end
/-- keywords' values -/
theorem _root_.L2.PK.imp {kws : List Keyword} {t t' : TA} (h : PK X kws t) (f : ∀ σ H Q, t' σ H Q → t σ H Q) : PK X kws t' := ⟨fun pos pins s σ H Q I w => h.run pos pins s σ H Q I (f σ H Q w)⟩
theorem tM_mono {α β : Type} {R : Rho → Hp → α → β → Prop} {f : Env → M α} : ∀ σ H (Q Q' : β → Hp → Prop), (∀ x H, Q x H → Q' x H) → tM L W R f σ H Q → tM L W R f σ H Q' := fun σ H Q Q' k ⟨ρ, S, η, sr, er, po⟩ => ⟨ρ, S, η, sr, er, po.imp k⟩
section
variable {a : Expr} {ea : E} {es : List E} {xs : List Expr} {kws : List Keyword} {kpos : Pos} {nm : Option Str} {pos sp_ : Pos} {ks : List Str} {kes : List E}
theorem pkm_nil : PK X [] (tA L W (evs P Φ [])) := pk_nil.imp fun σ H Q ⟨ρ, S, η, sr, er, po⟩ => by
  unfold evs at po
  exact po ρ H [] (.refl ρ H) sr .nil
theorem pkm_cons (ha : PE X a (tE L W (ev P Φ ea))) (hr : PK X kws (tA L W (evs P Φ es))) (hst : ∀ e, ea ≠ .st e) : PK X (⟨nm, a, kpos⟩ :: kws) (tA L W (evs P Φ (ea :: es))) := by
  refine (pk_cons ha hr).imp fun σ H Q ⟨ρ, S, η, sr, er, po⟩ => ?_
  have e1 : evs P Φ (ea :: es) η = (do
      let x ← ev P Φ ea η
      let ys ← evs P Φ es η
      pure (x :: ys)) := by
    cases ea <;> first | (exact absurd rfl (hst _)) | rfl
  rw [e1] at po
  refine first sr er po fun x H1 ⟨ρ1, S1, d, x1, s1, r1, p1⟩ => ?_
  refine first s1 (er.mono x1) p1 fun ys H2 ⟨ρ2, S2, ds, x2, s2, r2, p2⟩ => ?_
  exact p2 ρ2 H2 _ (.refl _ _) s2 (RDs.cons (RD.mono x2 _ _ r1) r2)
theorem Post.optS {α β γ : Type} {R2 : Rho → Hp → γ → β → Prop} {Q2 : β → Hp → Prop} {f : Store → Option α} {g : α → M γ} (h : Post L W σ ρ H R2 Q2 ((Mi.optS f >>= g) S)) : ∃ a, f S = some a ∧ Post L W σ ρ H R2 Q2 (g a S) := by
  cases q : f S with
  | some a =>
    have e : (Mi.optS f >>= g) S = g a S := by
      show (M.bind (Mi.optS f) g) S = _
      unfold M.bind Mi.optS
      simp only [q, Mi.opt]
    rw [e] at h
    exact ⟨a, rfl, h⟩
  | none =>
    have e : (Mi.optS f >>= g) S = .bad := by
      show (M.bind (Mi.optS f) g) S = _
      unfold M.bind Mi.optS
      simp only [q, Mi.opt]
    rw [e] at h
    exact h.elim
theorem seq_rd (sr : SR L ρ S H) {d : D} {v : V} {xs : List D} (r : RD L ρ H d v) (h : seqOf S d = some xs) : ∃ a vs, v = .ref a ∧ (SqL L.K H a vs ∨ SqT L.K H a vs) ∧ RDs L ρ H xs vs := by
  cases d with
  | tup ys =>
    have e : ys = xs := by simpa [seqOf, deref] using h
    subst e
    simp only [RD] at r
    obtain ⟨a, vs, e, ht, rs⟩ := r
    exact ⟨a, vs, e, .inr ht.sq, rs⟩
  | list ys =>
    have e : ys = xs := by simpa [seqOf, deref] using h
    subst e
    simp only [RD] at r
    obtain ⟨a, vs, e, hl, rs⟩ := r
    exact ⟨a, vs, e, .inl hl.sq, rs⟩
  | ref n =>
    unfold seqOf deref at h
    cases q : S[n]? with
    | none => simp [q] at h
    | some c =>
      cases c with
      | list ys =>
        have e : ys = xs := by simpa [q] using h
        subst e
        obtain ⟨a, e, hr, vs, ha, rs⟩ := sr.at r q (by simp)
        exact ⟨a, vs, e, .inl (SqL.of ha), rs⟩
      | _ => simp [q] at h
  | _ => simp [seqOf, deref] at h
/-- *e -/
theorem pam_star (hK : X.K = L.K) (he : PE X a (tE L W (ev P Φ ea))) (hr : PA X xs (tA L W (evs P Φ es))) (hs : starEach (.Starred a sp_ :: xs) X.env = (true, eval a X.env) :: starEach xs X.env) : PA X (.Starred a sp_ :: xs) (tA L W (evs P Φ (.st ea :: es))) := by
  refine (StX.pa_star he hr hs).imp fun σ H Q ⟨ρ, S, η, sr, er, po⟩ => ?_
  unfold evs at po
  refine first sr er po fun x H1 ⟨ρ1, S1, d, x1, s1, r1, p1⟩ => ?_
  obtain ⟨ys, e1, p1⟩ := Post.optS (f := fun S => seqOf S d) p1
  obtain ⟨p, vs, rfl, hq, rs⟩ := seq_rd s1 r1 e1
  refine ⟨p, vs, rfl, by rw [hK]; exact hq.symm, ?_⟩
  refine first s1 (er.mono x1) p1 fun zs H2 ⟨ρ2, S2, ds, x2, s2, r2, p2⟩ => ?_
  exact p2 ρ2 H2 _ (.refl _ _) s2 (RDs.append (rs.mono x2) r2)
/-- the arguments, as Mini has them -/
def ShM (X : Cx) (L : Lk) (W : WX) (P : Prog) (Φ : Call) (pos : Pos) (es : List Expr) (kws : List Keyword) (ees : List E) (ks : List Str) (kes : List E) : Prop := Sh X pos es kws ks (tA L W (evs P Φ ees)) (tA L W (evs P Φ kes))
theorem shm_0 : ShM X L W P Φ pos [] [] [] [] [] := sh_0.imp (fun σ H Q ⟨ρ, S, η, sr, er, po⟩ => by unfold evs at po; exact po ρ H [] (.refl ρ H) sr .nil) (fun σ H Q ⟨ρ, S, η, sr, er, po⟩ => by unfold evs at po; exact po ρ H [] (.refl ρ H) sr .nil) tM_mono
theorem shm_p (ha : PA X (a :: xs) (tA L W (evs P Φ es))) (he : starEach (a :: xs) X.env = (false, eval a X.env) :: starEach xs X.env) (hpl : (backTo pos (starEach xs X.env)).any (·.1) = false) : ShM X L W P Φ pos (a :: xs) [] es [] [] :=
  (sh_p ha he hpl).imp (fun σ H Q h => h) (fun σ H Q ⟨ρ, S, η, sr, er, po⟩ => by unfold evs at po; exact po ρ H [] (.refl ρ H) sr .nil) tM_mono
theorem shm_s2 (ha : PA X (a :: xs) (tA L W (evs P Φ es))) (he : starEach (a :: xs) X.env = (false, eval a X.env) :: starEach xs X.env) (hst : (backTo pos (starEach xs X.env)).any (·.1) = true) : ShM X L W P Φ pos (a :: xs) [] es [] [] :=
  (sh_s2 ha he hst).imp (fun σ H Q h => h) (fun σ H Q ⟨ρ, S, η, sr, er, po⟩ => by unfold evs at po; exact po ρ H [] (.refl ρ H) sr .nil) tM_mono
theorem shm_s (hK : X.K = L.K) (ha : PE X a (tE L W (ev P Φ ea))) (hs : starEach [.Starred a sp_] X.env = [(true, eval a X.env)]) : ShM X L W P Φ pos [.Starred a sp_] [] [.st ea] [] [] := by
  refine (sh_s ha hs).imp (fun σ H Q ⟨ρ, S, η, sr, er, po⟩ => ?_) (fun σ H Q ⟨ρ, S, η, sr, er, po⟩ => by unfold evs at po; exact po ρ H [] (.refl ρ H) sr .nil) tM_mono
  unfold evs at po
  refine first sr er po fun x H1 ⟨ρ1, S1, d, x1, s1, r1, p1⟩ => ?_
  obtain ⟨ys, e1, p1a⟩ := Post.optS (f := fun S => seqOf S d) p1
  obtain ⟨p, vs, rfl, hq, rs⟩ := seq_rd s1 r1 e1
  refine ⟨p, vs, rfl, by rw [hK]; exact hq.symm, ?_⟩
  unfold evs at p1a
  have p2 : Post L W σ ρ1 H1 (RDs L) Q (.ok (ys ++ []) S1) := p1a
  rw [List.append_nil] at p2
  exact p2 ρ1 H1 _ (.refl _ _) s1 rs
theorem shm_kw (ha : PA X (a :: xs) (tA L W (evs P Φ es))) (hkw : PK X kws (tA L W (evs P Φ kes))) (hall : (backToKw pos (keywordEach kws X.env)).all (·.1.isSome) = true) (hks : (backToKw pos (keywordEach kws X.env)).filterMap (·.1) = ks) (he : starEach (a :: xs) X.env = (false, eval a X.env) :: starEach xs X.env)
    (hpl : ((backTo pos (starEach (a :: xs) X.env)).any (·.1) || (backToKw pos (keywordEach kws X.env)).any (·.1.isNone)) = false) : ShM X L W P Φ pos (a :: xs) kws es ks kes := sh_kw ha hkw hall hks he hpl
theorem shm_kw0 (hkw : PK X kws (tA L W (evs P Φ kes))) (hall : (backToKw pos (keywordEach kws X.env)).all (·.1.isSome) = true) (hks : (backToKw pos (keywordEach kws X.env)).filterMap (·.1) = ks)
    (hpl : ((backTo pos (starEach [] X.env)).any (·.1) || (backToKw pos (keywordEach kws X.env)).any (·.1.isNone)) = false) : ShM X L W P Φ pos [] kws [] ks kes :=
  (sh_kw0 hkw hall hks hpl).imp (fun σ H Q ⟨ρ, S, η, sr, er, po⟩ => by unfold evs at po; exact po ρ H [] (.refl ρ H) sr .nil) (fun σ H Q h => h) tM_mono
theorem pm_mulm {b : Expr} {eb : E} (hK : X.K = L.K) (ha : PE X a (tE L W (ev P Φ ea))) (hb : PE X b (tE L W (ev P Φ eb))) : PE X (.BinOp a .Mult b pos) (tE L W (ev P Φ (.mulm ea eb))) := by
  refine (pe_op (om_mulM hK) ha hb).imp fun σ H Q ⟨ρ, S, η, sr, er, po⟩ => ?_
  unfold ev at po
  refine first sr er po fun x H1 ⟨ρ1, S1, d1, x1, s1, r1, p1⟩ => ?_
  refine first s1 (er.mono x1) p1 fun y H2 ⟨ρ2, S2, d2, x2, s2, r2, p2⟩ => ?_
  obtain ⟨xs, e, p3⟩ := Post.optS (f := fun S => mulL S d1 d2) p2
  exact ⟨ρ2, S2, d1, d2, xs, s2, RD.mono x2 _ _ r1, r2, e, fun p vs hp rs => p3.alloc s2 hp ⟨vs, upd_same, rs.mono (s2.ext_alloc hp)⟩⟩
theorem pm_addm {b : Expr} {eb : E} (hK : X.K = L.K) (ha : PE X a (tE L W (ev P Φ ea))) (hb : PE X b (tE L W (ev P Φ eb))) : PE X (.BinOp a .Add b pos) (tE L W (ev P Φ (.addm ea eb))) := by
  refine (pe_op (om_addM hK) ha hb).imp fun σ H Q ⟨ρ, S, η, sr, er, po⟩ => ?_
  unfold ev at po
  refine first sr er po fun x H1 ⟨ρ1, S1, d1, x1, s1, r1, p1⟩ => ?_
  refine first s1 (er.mono x1) p1 fun y H2 ⟨ρ2, S2, d2, x2, s2, r2, p2⟩ => ?_
  obtain ⟨xs, e, p3⟩ := Post.optS (f := fun S => addL S d1 d2) p2
  exact ⟨ρ2, S2, d1, d2, xs, s2, RD.mono x2 _ _ r1, r2, e, fun p vs hp rs => p3.alloc s2 hp ⟨vs, upd_same, rs.mono (s2.ext_alloc hp)⟩⟩
theorem evslm {lo hi : E} {η : Env} : ev P Φ (.slm ea lo hi) η = (ev P Φ ea η >>= fun x => evP P Φ lo η >>= fun l => evP P Φ hi η >>= fun h => optS (fun S => slL S x l h) >>= fun xs => alloc (.list xs) >>= fun n => pure (.ref n)) := by
  unfold evP
  simp only [M.assoc]
  conv => lhs; unfold ev
theorem pm_slm {lo hi : Option Expr} {el eh : E} {p2 : Pos} (hK : X.K = L.K) (ha : PE X a (tE L W (ev P Φ ea))) (hl : PO X lo (tP L W (evP P Φ el))) (hh : PO X hi (tP L W (evP P Φ eh))) : PE X (.Subscript a (.Slice lo hi none p2) pos) (tE L W (ev P Φ (.slm ea el eh))) := by
  refine (pe_slice (om_slN hK) ha hl hh).imp fun σ H Q ⟨ρ, S, η, sr, er, po⟩ => ?_
  rw [evslm] at po
  refine first sr er po fun x H1 ⟨ρ1, S1, d1, x1, s1, r1, p1⟩ => ?_
  refine first s1 (er.mono x1) p1 fun l H2 ⟨ρ2, S2, l2, x2, s2, r2, p2⟩ => ?_
  refine first s2 ((er.mono x1).mono x2) p2 fun h H3 ⟨ρ3, S3, h3, x3, s3, r3, p3⟩ => ?_
  cases r2
  cases r3
  obtain ⟨xs, e, p4⟩ := Post.optS (f := fun S => slL S d1 l h) p3
  exact ⟨ρ3, S3, d1, xs, s3, RD.mono x3 _ _ (RD.mono x2 _ _ r1), e, fun p vs hp rs => p4.alloc s3 hp ⟨vs, upd_same, rs.mono (s3.ext_alloc hp)⟩⟩
theorem pm_call {f : Nat} {x : Str} {p : Pos} (F : FnM X.prog X.w X.mg X.base L P fa Φ n) (hK : X.K = L.K) (hr : RoomM (2 * n + 1) X.A) (tk : Takes X W) (hg : Gl X x) (hm : X.mg x = some (.ref (fa f))) (hk : PySem.W.keepIn X.K (.ref (fa f)) = true) (hdb : (x == ("__debug__" : Str)) = false)
    (sh : ShM X L W P Φ pos xs kws es ks kes) : PE X (.Call (.Name x p) xs kws pos) (tE L W (ev P Φ (.call f es ks kes))) := by
  refine ⟨fun pins s σ H Q I ⟨ρ, S, η, sr, er, po⟩ => ?_⟩
  unfold ev at po
  refine wpAny_Call_Name_kw (ld_glob I hg hm ?_ hdb)
  refine sh _ [] pins _ σ H _ (kept_K hk) I ?_
  refine first sr er po fun vs H1 ⟨ρ1, S1, ds, x1, s1, r1, p1⟩ => ?_
  refine first s1 (er.mono x1) p1 fun zs H2 ⟨ρ2, S2, es', x2, s2, r2, p2⟩ => ?_
  intro us ws s3 I3 q1 q2
  exact run_m F hK hr tk I3 (stands_of (r1.mono x2) q1) (stands_of r2 q2) s2 p2
end
end
end Mi
set_option Elab.async false
set_option linter.all false
set_option maxHeartbeats 1000000
namespace Mi
open PySem PySem.Spec PyProof.Rows L2 ClX
/-- what the classes of a program hold -/
structure ClsOk (K : PySem.W.Frag) (L : Lk) (P : Prog) (fa : Nat → Addr) : Prop where
  inst : ∀ c m f, instM P c m = some f → Cls K (L.ca c) ∧ Meth K (L.ca c) m (fa f) ∧ m ∉ L.fn c
  cmet : ∀ c m f, P.meth c m = some (.cls f) → ∃ mc p, CRead K (L.ca c) mc ∧ CMet K (L.ca c) mc m p (fa f)
  fld : ∀ c g k, P.attr c g = some (.fld k) → Cls K (L.ca c) ∧ NoAttr K (L.ca c) g ∧ (L.fn c)[k]? = some g ∧ (L.fn c).Nodup ∧ (L.fn c).length < 900
  prop : ∀ c g f, P.attr c g = some (.prop f) → Cls K (L.ca c) ∧ ∃ p, PropOf K (L.ca c) g p (fa f)
  con : ∀ c g d, P.attr c g = some (.con d) → ∃ mc v u, CRead K (L.ca c) mc ∧ CVal K (L.ca c) mc g v u ∧ ∀ ρ H, RD L ρ H d v
  init : ∀ c f, P.init c = some f → Mk K (L.ca c) (fa f)
section
variable {X : Cx} {L : Lk} {W : WX} {P : Prog} {Φ : Call} {fa : Nat → Addr} {n : Nat} {ρ : Rho} {H : Hp} {S : Store}
theorem lookup_zipV {α : Type} : ∀ {ps : List Str} {us : List α} {i : Nat} {nm : Str} {u : α}, ps.Nodup → ps[i]? = some nm → us[i]? = some u → (ps.zip us).lookup nm = some u := lookup_zip
/-- an instance -/
theorem cls_at (sr : SR L ρ S H) {d : D} {v : V} {c : Nat} {fs : List D} (r : RD L ρ H d v) (h : clsOf S d = some (c, fs)) : ∃ a dx vs, v = .ref a ∧ H a = some (.ins (L.ca c) dx ((L.fn c).zip vs)) ∧ vs.length ≤ (L.fn c).length ∧ RDs L ρ H fs vs := by
  cases d with
  | obj c' fs' =>
    simp only [clsOf, Option.some.injEq, Prod.mk.injEq] at h
    obtain ⟨rfl, rfl⟩ := h
    simp only [RD] at r
    obtain ⟨a, dx, vs, e, h1, h2, h3, h4⟩ := r
    exact ⟨a, dx, vs, e, h1, h3, h4⟩
  | ref m =>
    unfold clsOf at h
    cases q : S[m]? with
    | none => simp [q] at h
    | some cc =>
      cases cc with
      | inst c' fs' =>
        simp only [q, Option.some.injEq, Prod.mk.injEq] at h
        obtain ⟨rfl, rfl⟩ := h
        obtain ⟨a, rfl, _, dx, vs, h1, h2, h3⟩ := sr.at r q (by simp)
        exact ⟨a, dx, vs, rfl, h1, h2, h3⟩
      | _ => simp [q] at h
  | _ => simp [clsOf] at h
theorem calm_post {α β : Type} {R : Rho → Hp → α → β → Prop} {Q : β → Hp → Prop} {W' : WX} {σ σ' : L2.St} {m : M α} (h : Post L W σ ρ H R Q (calm m S)) : Post L W' σ' ρ H R Q (m S) := by
  unfold calm at h
  cases q : m S with
  | ok a S' => rw [q] at h; exact h
  | exc e S' => rw [q] at h; exact h.elim
  | bad => rw [q] at h; exact h
section
variable {o : Expr} {ea : E} {es : List E} {xs : List Expr} {kws : List Keyword} {pos apos : Pos} {ks : List Str} {kes : List E} {m : Str}
/-- o.m(..) -/
theorem pm_meth {pl : Sem Bool} (F : FnM X.prog X.w X.mg X.base L P fa Φ n) (hK : X.K = L.K) (hr : RoomM (2 * n + 1) X.A) (tk : Takes X W) (ok : ClsOk X.K L P fa) (he : PE X o (tE L W (ev P Φ ea))) (sh : ShM X L W P Φ pos xs kws es ks kes)
    (ht : eval (.Call (.Attribute o m apos) xs kws pos) X.env = (do
      let ov ← eval o X.env
      standAt apos.atName
      let (f, first) ← holding [ov] (getMethod ov m pl)
      callWith pos f first (backTo pos (starEach xs X.env)) (backToKw pos (keywordEach kws X.env)))) : PE X (.Call (.Attribute o m apos) xs kws pos) (tE L W (ev P Φ (.meth ea m es ks kes))) := by
  refine ⟨fun pins s σ H Q I ⟨ρ, S, η, sr, er, po⟩ => ?_⟩
  unfold ev at po
  refine PySem.W.methodCall_KW (pl := pl) (thn (he.run pins s σ H _ I (first sr er po fun x H1 t => t)) fun u s1 ⟨x, H1, I1, rx, ρ1, S1, d, x1, sr1, r1, p1⟩ => ?_) ht
  obtain ⟨c, e1, p1a⟩ := p1.optS
  obtain ⟨f, e2, p1b⟩ := p1a.opt
  simp only [clsNo, Option.map_eq_some_iff] at e1
  obtain ⟨⟨c', fs⟩, e1, e3⟩ := e1
  cases e3
  obtain ⟨a, dx, vs0, rfl, ha, hl, rs⟩ := cls_at sr1 r1 e1
  obtain ⟨k1, k2, k3⟩ := ok.inst _ _ _ e2
  obtain rfl : u = Value.ref a := rx
  refine getmeth_ok I1 ha k1 k2 (lookup_none fun k => k3 (zip_fst _ _ _ k)) ?_
  refine sh (.ref (fa f)) [.ref a] pins s1 σ H1 _ (kept_K k2.kp) I1 ?_
  refine first sr1 (er.mono x1) p1b fun vs H2 ⟨ρ2, S2, ds, x2, s2, r2, p2⟩ => ?_
  refine first s2 ((er.mono x1).mono x2) p2 fun zs H3 ⟨ρ3, S3, es', x3, s3, r3, p3⟩ => ?_
  intro us ws s4 I4 q1 q2
  refine run_m F hK hr tk I4 (us := .ref a :: us) (.cons ⟨.ref a, rfl, RD.mono x3 _ _ (RD.mono x2 _ _ r1)⟩ (stands_of (r2.mono x3) q1)) (stands_of r3 q2) s3 p3
/-- what an exception class is asked when a field is read -/
structure XGet (K : PySem.W.Frag) (L : Lk) (P : Prog) : Prop where
  get : ∀ c ps dfl, P.exc c = some (ps, dfl) → L.fn c = ps ∧ PySem.W.findIn K (.ref (L.ca c)) "__getattribute__" = some (some (.builtin "BaseException.__getattribute__")) ∧ PySem.W.findIn K (.ref (L.ca c)) "__getattr__" = some none ∧
    PySem.W.subIn K (.ref (L.ca c)) (.type "BaseException") = some true ∧ PySem.W.hasDictIn K (L.ca c) = true ∧ ∀ f ∈ ps, PySem.W.findIn K (.ref (L.ca c)) f = some none
theorem lookup_keys {α : Type} : ∀ {ps : List Str} {fs : List α} {f : Str} {y : α}, (ps.zip fs).lookup f = some y → f ∈ ps
  | [], _, _, _, h => by simp at h
  | _ :: _, [], _, _, h => by simp at h
  | p :: ps, x :: fs, f, y, h => by
    simp only [List.zip_cons_cons] at h
    unfold List.lookup at h
    cases e : f == p with
    | true => exact by have := eq_of_beq e; simp [this]
    | false => rw [e] at h; exact List.mem_cons_of_mem _ (lookup_keys h)
theorem rds_look {ρ : Rho} {H : Hp} : ∀ {ps : List Str} {fs : List D} {vs : List V} {f : Str} {y : D}, (ps.zip fs).lookup f = some y → RDs L ρ H fs vs → ∃ w, (ps.zip vs).lookup f = some w ∧ RD L ρ H y w
  | [], _, _, _, _, h, _ => by simp at h
  | _ :: _, [], _, _, _, h, _ => by simp at h
  | p :: ps, x :: fs, vs, f, y, h, r => by
    simp only [RDs] at r
    obtain ⟨v, ws, rfl, r1, rs⟩ := r
    simp only [List.zip_cons_cons] at h ⊢
    unfold List.lookup at h ⊢
    cases e : f == p with
    | true => rw [e] at h; cases h; exact ⟨v, rfl, r1⟩
    | false => rw [e] at h; exact rds_look h rs
theorem pm_attr {f : Str} (xg : XGet X.K L P) (F : FnM X.prog X.w X.mg X.base L P fa Φ n) (hK : X.K = L.K) (hr : RoomM (2 * n + 1) X.A) (tk : Takes X W) (ok : ClsOk X.K L P fa) (he : PE X o (tE L W (ev P Φ ea))) (hab : attributeBase o f X.env (eval o X.env) = eval o X.env) :
    PE X (.Attribute o f pos) (tE L W (ev P Φ (.attr ea f))) := by
  refine ⟨fun pins s σ H Q I ⟨ρ, S, η, sr, er, po⟩ => ?_⟩
  unfold ev at po
  refine attr_of hab (thn (he.run pins s σ H _ I (first sr er po fun x H1 t => t)) fun u s1 ⟨x, H1, I1, rx, ρ1, S1, d, x1, sr1, r1, p1⟩ => ?_)
  by_cases hx : ∃ c fs, d = .exc c fs
  · obtain ⟨c, fs, rfl⟩ := hx
    have p1 : Post L W σ ρ1 H1 (RD L) Q (opt (getX P c fs f) S1) := p1
    unfold getX at p1
    cases q : P.exc c with
    | none => rw [q] at p1; exact (show False from p1).elim
    | some pd =>
      obtain ⟨ps, dfl⟩ := pd
      obtain ⟨g1, g2, g3, g4, g5, g6⟩ := xg.get c ps dfl q
      simp only [q] at p1
      cases q2 : (ps.zip fs).lookup f with
      | none => rw [q2] at p1; exact (show False from p1).elim
      | some y =>
        rw [q2] at p1
        simp only [RD] at r1
        obtain ⟨a, dx, vs0, rfl, ha, _, hd, _, hl, rs⟩ := r1
        obtain rfl : u = Value.ref a := rx
        rw [g1] at hd
        obtain ⟨w, hw, rw'⟩ := rds_look q2 rs
        have okA : ObjOk X.prog X.w H1 s1.heap a (exAt a (L.ca c) dx) := I1.hok a _ ha
        obtain ⟨⟨oe, ws, h1, h2, h3, h4⟩, _⟩ := okA
        have okD : ObjOk X.prog X.w H1 s1.heap dx (.xd (ps.zip vs0)) := I1.hok dx _ hd
        obtain ⟨mA, hns, hr0⟩ := okD
        obtain ⟨od, ho, hlk⟩ := lookIn_ns hns
        obtain ⟨u1, hu, ru⟩ := RelO.some_of (v := w) (o := mA f) (by rw [← hw]; exact hr0 f)
        have hfm : f ∈ ps := by
          have := lookup_keys q2
          exact this
        have J : PySem.W.InstAt s1.heap a oe (L.ca c) (some od) := ⟨h1, h2, by unfold PySem.W.notCls; rw [h4] <;> rfl, by rw [h3]; exact ho⟩
        exact HandSPX.exc_get I1.kIn J g2 g3 g4 (PySem.W.findObj_own g5 (g6 f hfm) rfl (by rw [hlk, hu])) (handed_of ru) ⟨w, H1, I1.tok _, ru, p1 ρ1 H1 w (.refl _ _) sr1 rw'⟩
  have p1 : Post L W σ ρ1 H1 (RD L) Q (getI P Φ d f S1) := by
    cases d with
    | exc c fs => exact absurd ⟨c, fs, rfl⟩ hx
    | _ => exact p1
  unfold getI at p1
  cases q : clsOf S1 d with
  | none => simp only [q] at p1; exact p1.elim
  | some cf =>
    obtain ⟨c, fs⟩ := cf
    obtain ⟨a, dx, vs0, rfl, ha, hl, rs⟩ := cls_at sr1 r1 q
    obtain rfl : u = Value.ref a := rx
    cases q2 : P.attr c f with
    | none => simp only [q, q2] at p1; exact p1.elim
    | some k =>
      cases k with
      | fld k =>
        simp only [q, q2] at p1
        obtain ⟨k1, k2, k3, k4, k5⟩ := ok.fld _ _ _ q2
        cases q3 : fs[k]? with
        | none => rw [q3] at p1; exact (show False from p1).elim
        | some y =>
          rw [q3] at p1
          obtain ⟨w, hw, rw'⟩ := rs.get q3
          refine getattr_ok I1 ha k1 k2 (lookup_zip k4 k3 hw) fun u s' I' ru => ⟨w, H1, I', ru, ?_⟩
          exact p1 ρ1 H1 w (.refl _ _) sr1 rw'
      | prop g =>
        simp only [q, q2] at p1
        obtain ⟨k1, p, hp⟩ := ok.prop _ _ _ q2
        obtain ⟨mA, O, _, _, _, _⟩ := ins_get I1.hok ha
        obtain ⟨od, J, _⟩ := O.look
        obtain ⟨rest, hrec⟩ := hp.rec_
        have I2 := I1.tok (s1.toks + 1)
        have hc : (PySem.W.clsIn X.K (L.ca c)).isSome = true := by
          obtain ⟨cd, hc, _⟩ := PySem.W.any_some k1.hd
          rw [hc]
          rfl
        have e0 := I2.env0.in1
        rw [hK] at e0
        refine PySem.W.get_bind I1.kIn J (PySem.W.plainGet_of (k1.get f)).1 (PySem.W.findObj_data hc hp.at_ hp.get hp.tak) (PySem.W.plainGet_of (k1.get f)).2 (wpAny_call (PySem.W.prop_get (s := { s1 with toks := s1.toks + 1 }) I1.kIn hrec ?_))
        refine codeAny_mono (F g X.A.in1 X.stack { s1 with toks := s1.toks + 1 } H1 [.ref a] [] [] [d] [] ρ1 S1 Q (fun _ _ _ => False) hr.in1 e0 (.cons ⟨.ref a, rfl, r1⟩ .nil) .nil sr1 (calm_post p1)) fun r s' hq => ?_
        cases r with
        | error e =>
          obtain ⟨_, _, _, _, _, _, _, _, _, _, _, _, z⟩ := (show L2.CX X.prog X.w X.stack H1 _ (fun _ _ _ => False) e s' from hq)
          exact z.elim
        | ok fl =>
          cases fl with
          | ret u =>
            obtain ⟨v, H', I3, rv, q3⟩ := I2.after hq
            show wpAny _ _ (handedOut u) _ _ _
            rw [PySem.W.handedOut_of (handed_of rv)]
            exact wpAny_pure ⟨v, H', I3, rv, q3⟩
          | next => exact (show False from hq).elim
          | brk => exact (show False from hq).elim
          | cont => exact (show False from hq).elim
      | con v => simp only [q, q2] at p1; exact p1.elim
/-- C.f, a constant of a class -/
theorem pm_cattr {c : Nat} {f : Str} (ok : ClsOk X.K L P fa) (hv : PE X o (tC (.ref (L.ca c)))) (hab : attributeBase o f X.env (eval o X.env) = eval o X.env) : PE X (.Attribute o f pos) (tE L W (ev P Φ (.cattr c f))) := by
  refine (pe_cval hv hab).imp fun σ H Q ⟨ρ, S, η, sr, er, po⟩ => ?_
  unfold ev at po
  cases q : P.attr c f with
  | none => simp only [q] at po; exact po.elim
  | some k =>
    cases k with
    | con d =>
      simp only [q] at po
      obtain ⟨mc, v, u, h1, h2, h3⟩ := ok.con _ _ _ q
      exact ⟨L.ca c, mc, v, u, rfl, h1, h2, po ρ H v (.refl _ _) sr (h3 ρ H)⟩
    | _ => simp only [q] at po; exact po.elim
end
end
end Mi
set_option Elab.async false
set_option linter.all false
set_option maxHeartbeats 1000000
namespace Mi
open PySem PySem.Spec PyProof.Rows L2 ClX
section
variable {X : Cx} {L : Lk} {W : WX} {P : Prog} {Φ : Call} {fa : Nat → Addr} {n : Nat} {ρ : Rho} {H : Hp} {S : Store} {σ : L2.St}
theorem ext_set {i : Nat} {ρ : Rho} {H : Hp} : Ext ρ H (ρ.set i none) H := by
  refine ⟨by simp, fun j hj => ?_, fun b u e nl => ⟨e, fun l => nl (live_set l)⟩⟩
  by_cases hin : j = i
  · subst hin
    exact .inr (List.getElem?_set_self hj)
  · exact .inl (List.getElem?_set_ne (Ne.symm hin))
theorem not_live_set (sr : SR L ρ S H) {i : Nat} {a : Addr} (hi : ρ[i]? = some (some a)) : ¬ live (ρ.set i none) a := by
  rintro ⟨j, e⟩
  by_cases h : j = i
  · subst h
    rw [List.getElem?_set_self (List.getElem?_eq_some_iff.mp hi).1] at e
    cases e
  · rw [List.getElem?_set_ne (Ne.symm h)] at e
    exact h (sr.inj j i a e hi)
/-- a cell becomes a value -/
theorem freeze_rd (sr : SR L ρ S H) {d d' : D} {v : V} {S' : Store} (r : RD L ρ H d v) (h : freeze d S = some (d', S')) : ∃ ρ', Ext ρ H ρ' H ∧ SR L ρ' S' H ∧ RD L ρ' H d' v := by
  have triv : freeze d S = some (d, S) → ∃ ρ', Ext ρ H ρ' H ∧ SR L ρ' S' H ∧ RD L ρ' H d' v := fun e => by
    rw [e] at h
    cases h
    exact ⟨ρ, .refl _ _, sr, r⟩
  cases d with
  | ref i =>
    unfold freeze at h
    cases q : S[i]? with
    | none => simp [q] at h
    | some c =>
      have hi : i < S.length := (List.getElem?_eq_some_iff.mp q).1
      cases c with
      | list xs =>
        simp only [q, Option.some.injEq, Prod.mk.injEq] at h
        obtain ⟨rfl, rfl⟩ := h
        obtain ⟨a, rfl, hr, vs, ha, rs⟩ := sr.at r q (by simp)
        refine ⟨ρ.set i none, ext_set, sr.freeze hi, ?_⟩
        simp only [RD]
        exact ⟨a, vs, rfl, .inl ⟨.inl ha, not_live_set sr hr⟩, rs.mono ext_set⟩
      | inst c fs =>
        simp only [q, Option.some.injEq, Prod.mk.injEq] at h
        obtain ⟨rfl, rfl⟩ := h
        obtain ⟨a, rfl, hr, dx, vs, ha, hl, rs⟩ := sr.at r q (by simp)
        refine ⟨ρ.set i none, ext_set, sr.freeze hi, ?_⟩
        simp only [RD]
        exact ⟨a, dx, vs, rfl, ha, not_live_set sr hr, hl, rs.mono ext_set⟩
      | dK kvs =>
        simp only [q, Option.some.injEq, Prod.mk.injEq] at h
        obtain ⟨rfl, rfl⟩ := h
        obtain ⟨a, rfl, hr, vs, ha, nd, rs⟩ := sr.at r q (by simp)
        refine ⟨ρ.set i none, ext_set, sr.freeze hi, ?_⟩
        simp only [RD]
        exact ⟨a, vs, rfl, ⟨.inl ha, nd, not_live_set sr hr, by rw [← rs.length, List.length_map, List.length_map]⟩, rs.mono ext_set⟩
      | _ => simp [q] at h
  | _ => exact triv rfl
theorem pm_fz {e : Expr} {ea : E} (he : PE X e (tE L W (ev P Φ ea))) : PE X e (tE L W (ev P Φ (.fz ea))) := by
  refine he.imp fun σ H Q ⟨ρ, S, η, sr, er, po⟩ => ?_
  unfold ev at po
  refine first sr er po fun x H1 ⟨ρ1, S1, d, x1, s1, r1, p1⟩ => ?_
  obtain ⟨d', S', e, k⟩ := Post.eff p1
  obtain ⟨ρ2, x2, s2, r2⟩ := freeze_rd s1 r1 e
  exact k ρ2 H1 x x2 s2 r2
/-- an instance is made -/
theorem run_mk {c : Nat} {fz : Bool} {us ws : List Value} {ks : List Str} {ds es : List D} {pins : List (Addr × Obj)} {s : Shared} {Q : VK} (F : FnM X.prog X.w X.mg X.base L P fa Φ n) (hK : X.K = L.K) (hr : RoomM (2 * n + 1) X.A) (tk : Takes X W) (ok : ClsOk X.K L P fa) (I : Inv X pins σ H s)
    (r1 : EIs (Stands L ρ H) us ds) (r2 : EIs (Stands L ρ H) ws es) (sr : SR L ρ S H) (h : Post L W σ ρ H (RD L) Q (mkM P Φ fz c ds ks es S)) : wpAny (model X.prog X.w) X.A (call (.ref (L.ca c)) us (ks.zip ws)) (EP X pins σ Q) X.xe s := by
  unfold mkM at h
  cases q : P.init c with
  | none => simp only [q] at h; exact h.elim
  | some f =>
    simp only [q] at h
    have M := ok.init _ _ q
    have I2 := Inv.made (C := L.ca c) I
    have f1 : H (s.heap.objs.size + 1) = none := I.hok.fresh (Nat.le_succ _)
    have f0 : H s.heap.objs.size = none := I.hok.fresh (Nat.le_refl _)
    have ne : s.heap.objs.size ≠ s.heap.objs.size + 1 := Nat.ne_of_lt (Nat.lt_succ_self _)
    have sr1 : SR L ρ S (upd H s.heap.objs.size (.own (s.heap.objs.size + 1))) := sr.new f0
    have x1 : Ext ρ H ρ (upd H s.heap.objs.size (.own (s.heap.objs.size + 1))) := sr.ext_new f0
    have f2 : (upd H s.heap.objs.size (.own (s.heap.objs.size + 1))) (s.heap.objs.size + 1) = none := by rw [upd_ne (Ne.symm ne)]; exact f1
    have x2 := sr1.ext_alloc (o := .ins (L.ca c) s.heap.objs.size []) f2
    have sr2 : SR L (ρ ++ [some (s.heap.objs.size + 1)]) (S ++ [.inst c []]) (upd (upd H s.heap.objs.size (.own (s.heap.objs.size + 1))) (s.heap.objs.size + 1) (.ins (L.ca c) s.heap.objs.size [])) :=
      sr1.alloc f2 ⟨s.heap.objs.size, [], by simpa using upd_same, by simp, RDs.nil⟩
    have xx := x1.trans x2
    have rself : RD L (ρ ++ [some (s.heap.objs.size + 1)]) (upd (upd H s.heap.objs.size (.own (s.heap.objs.size + 1))) (s.heap.objs.size + 1) (.ins (L.ca c) s.heap.objs.size [])) (.ref S.length) (.ref (s.heap.objs.size + 1)) := by
      simp only [RD]
      exact ⟨_, rfl, .inl (by rw [← sr.len]; simp)⟩
    have mono : ∀ {us : List Value} {ds : List D}, EIs (Stands L ρ H) us ds → EIs (Stands L (ρ ++ [some (s.heap.objs.size + 1)]) (upd (upd H s.heap.objs.size (.own (s.heap.objs.size + 1))) (s.heap.objs.size + 1) (.ins (L.ca c) s.heap.objs.size []))) us ds :=
      fun h => h.mono fun a b ⟨v, h1, h2⟩ => ⟨v, h1, RD.mono xx _ _ h2⟩
    have e0 := I2.env0.make (L.ca c) us (ks.zip ws)
    rw [hK] at e0
    have po : Post L W σ (ρ ++ [some (s.heap.objs.size + 1)]) (upd (upd H s.heap.objs.size (.own (s.heap.objs.size + 1))) (s.heap.objs.size + 1) (.ins (L.ca c) s.heap.objs.size [])) (RD L)
        (fun v H2 => v = .non ∧ Q (.ref (s.heap.objs.size + 1)) H2) (callM P Φ f (.ref S.length :: ds) ks es (S ++ [.inst c []])) := by
      cases q2 : callM P Φ f (.ref S.length :: ds) ks es (S ++ [.inst c []]) with
      | bad => rw [q2] at h; exact h.elim
      | exc e S' =>
        rw [q2] at h
        exact fun ρ' H' cls dx y => h ρ' H' cls dx (xx.trans y)
      | ok d S' =>
        rw [q2] at h
        cases d with
        | none =>
          intro ρ' H' v y s' rv
          simp only [RD_none] at rv
          refine ⟨rv, ?_⟩
          have rs' := RD.mono y _ _ rself
          cases fz with
          | false =>
            have h' : Post L W σ ρ H (RD L) Q (.ok (.ref S.length) S') := by simpa using h
            exact h' ρ' H' _ (xx.trans y) s' rs'
          | true =>
            have h' : Post L W σ ρ H (RD L) Q (eff (freeze (.ref S.length)) S') := by simpa using h
            obtain ⟨d', S2, e, k⟩ := Post.eff h'
            obtain ⟨ρ2, x3, s3, r3⟩ := freeze_rd s' rs' e
            exact k ρ2 H' _ ((xx.trans y).trans x3) s3 r3
        | _ => exact (show False from h).elim
    refine wpAny_call (make_map (f := fa f) I.kIn M.makes M.init (beq_iff_eq.mp M.fn) (codeAny_mono (F f _ X.stack _ _ (Value.ref (s.heap.objs.size + 1) :: us) ws ks (.ref S.length :: ds) es _ _ _ (WE W σ) (hr.make (L.ca c) us (ks.zip ws)) e0
      (.cons ⟨.ref (s.heap.objs.size + 1), rfl, rself⟩ (mono r1)) (mono r2) sr2 po.toE) fun r s' hq' => ?_))
    cases r with
    | error e => exact passAt tk σ pins _ _ e s' I2 hq'
    | ok fl =>
      cases fl with
      | ret u =>
        obtain ⟨v, H', I3, rv, ev, q3⟩ := I2.after hq'
        subst ev
        exact ⟨rv, ⟨V.ref (s.heap.objs.size + 1), H', I3, rfl, q3⟩⟩
      | next => exact False.elim hq'
      | brk => exact False.elim hq'
      | cont => exact False.elim hq'
theorem run_cmM {q : Addr} {c f : Nat} {us ws : List Value} {ks : List Str} {ds es : List D} {pins : List (Addr × Obj)} {s : Shared} {Q : VK} (F : FnM X.prog X.w X.mg X.base L P fa Φ n) (hK : X.K = L.K) (hr : RoomM (2 * n + 1) X.A) (tk : Takes X W)
    (I : Inv X ((q, PySem.W.methodObj (.ref (fa f)) (.ref (L.ca c))) :: pins) σ H s) (r1 : EIs (Stands L ρ H) us ds) (r2 : EIs (Stands L ρ H) ws es) (sr : SR L ρ S H)
    (h : Post L W σ ρ H (RD L) Q (callM P Φ f (.cls c :: ds) ks es S)) : wpAny (model X.prog X.w) X.A (call (.ref q) us (ks.zip ws)) (EP X pins σ Q) X.xe s := by
  have z : wpAny (model X.prog X.w) X.A (call (.ref q) us (ks.zip ws)) (EP X ((q, PySem.W.methodObj (.ref (fa f)) (.ref (L.ca c))) :: pins) σ Q) X.xe s := by
    refine wpAny_call (PySem.W.method_call (pin_at I) ?_)
    have e0 := I.env0
    rw [hK] at e0
    refine codeAny_mono (F f X.A X.stack s H (.ref (L.ca c) :: us) ws ks (.cls c :: ds) es ρ S Q (WE W σ) (hr.mono (Nat.le_succ _)) e0 (.cons ⟨.ref (L.ca c), rfl, by simp⟩ r1) r2 sr h.toE) fun r s' hq => ?_
    have z := after_m (fun e s' c => passAt tk σ _ H s e s' I c) I hq
    cases r with
    | error e => exact z
    | ok fl =>
      cases fl with
      | ret u => exact z
      | next => exact z.elim
      | brk => exact z.elim
      | cont => exact z.elim
  exact thn z fun _ _ y => unpinE y
section
variable {o : Expr} {ea : E} {es : List E} {xs : List Expr} {kws : List Keyword} {pos apos p : Pos} {ks : List Str} {kes : List E} {m x : Str}
theorem pm_mk {c : Nat} {fz : Bool} (F : FnM X.prog X.w X.mg X.base L P fa Φ n) (hK : X.K = L.K) (hr : RoomM (2 * n + 1) X.A) (tk : Takes X W) (ok : ClsOk X.K L P fa) (hg : Gl X x) (hm : X.mg x = some (.ref (L.ca c))) (hk : PySem.W.keepIn X.K (.ref (L.ca c)) = true) (hdb : (x == ("__debug__" : Str)) = false)
    (sh : ShM X L W P Φ pos xs kws es ks kes) : PE X (.Call (.Name x p) xs kws pos) (tE L W (ev P Φ (.mk fz c es ks kes))) := by
  refine ⟨fun pins s σ H Q I ⟨ρ, S, η, sr, er, po⟩ => ?_⟩
  unfold ev at po
  refine wpAny_Call_Name_kw (ld_glob I hg hm ?_ hdb)
  refine sh _ [] pins _ σ H _ (kept_K hk) I ?_
  refine first sr er po fun vs H1 ⟨ρ1, S1, ds, x1, s1, r1, p1⟩ => ?_
  refine first s1 (er.mono x1) p1 fun zs H2 ⟨ρ2, S2, es', x2, s2, r2, p2⟩ => ?_
  intro us ws s3 I3 q1 q2
  exact run_mk F hK hr tk ok I3 (stands_of (r1.mono x2) q1) (stands_of r2 q2) s2 p2
/-- v(..), v a variable that holds a class -/
theorem pm_mkv {fz : Bool} (F : FnM X.prog X.w X.mg X.base L P fa Φ n) (hK : X.K = L.K) (hr : RoomM (2 * n + 1) X.A) (tk : Takes X W) (ok : ClsOk X.K L P fa) (he : PE X (.Name x p) (tE L W (ev P Φ ea)))
    (sh : ShM X L W P Φ pos xs [] es [] []) : PE X (.Call (.Name x p) xs [] pos) (tE L W (ev P Φ (.mkv fz ea es))) := by
  refine ⟨fun pins s σ H Q I ⟨ρ, S, η, sr, er, po⟩ => ?_⟩
  unfold ev at po
  refine wpAny_Call_Name_kw (thn (he.run pins s σ H _ I (first sr er po fun x H1 t => t)) fun u s1 ⟨x, H1, I1, rx, ρ1, S1, d, x1, sr1, r1, p1⟩ => ?_)
  obtain ⟨c, e1, p1a⟩ := p1.opt
  simp only [Option.bind_eq_some_iff, Option.map_eq_some_iff] at e1
  obtain ⟨c', e1, f, e2, e3⟩ := e1
  subst e3
  cases d with
  | cls c2 =>
    simp only [asCls, Option.some.injEq] at e1
    subst e1
    simp only [RD_cls] at r1
    subst r1
    obtain rfl : u = Value.ref (L.ca c2) := rx
    refine sh _ [] pins _ σ H1 _ (kept_K (ok.init _ _ e2).kp) I1 ?_
    refine first sr1 (er.mono x1) p1a fun vs H2 ⟨ρ2, S2, ds, x2, s2, r2, p2⟩ => ?_
    refine ⟨ρ2, S2, η, s2, (er.mono x1).mono x2, ?_⟩
    unfold evs
    intro ρ3 H3 zs y s3 rz us ws s4 I4 q1 q2
    simp only [RDs] at rz
    subst rz
    cases q2
    exact run_mk (ws := []) (es := []) F hK hr tk ok I4 (stands_of (r2.mono y) q1) .nil s3 (p2.ext y)
  | _ => simp [asCls] at e1
/-- C.m(..), m a class method -/
theorem pm_cm {c : Nat} {pl : Sem Bool} (F : FnM X.prog X.w X.mg X.base L P fa Φ n) (hK : X.K = L.K) (hr : RoomM (2 * n + 1) X.A) (tk : Takes X W) (ok : ClsOk X.K L P fa) (he : PE X o (tC (.ref (L.ca c)))) (sh : ShM X L W P Φ pos xs kws es ks kes)
    (ht : eval (.Call (.Attribute o m apos) xs kws pos) X.env = (do
      let ov ← eval o X.env
      standAt apos.atName
      let (f, first) ← holding [ov] (getMethod ov m pl)
      callWith pos f first (backTo pos (starEach xs X.env)) (backToKw pos (keywordEach kws X.env)))) : PE X (.Call (.Attribute o m apos) xs kws pos) (tE L W (ev P Φ (.cm c m es ks kes))) := by
  refine ⟨fun pins s σ H Q I ⟨ρ, S, η, sr, er, po⟩ => ?_⟩
  unfold ev at po
  cases q : P.meth c m with
  | none => simp only [q] at po; exact po.elim
  | some mk =>
    cases mk with
    | inst f => simp only [q] at po; exact po.elim
    | stat f => simp only [q] at po; exact po.elim
    | cls f =>
      simp only [q] at po
      obtain ⟨mc, p, k1, k2⟩ := ok.cmet _ _ _ q
      refine PySem.W.methodCall_KW (pl := pl) (thn (he.run pins s σ H (fun x H1 => x = .ref (L.ca c) ∧ H1 = H) I ⟨rfl, rfl⟩) fun u s1 ⟨x, H1, I1, rx, ex, eH⟩ => ?_) ht
      subst ex eH
      obtain rfl : u = Value.ref (L.ca c) := rx
      refine getmethcm_ok I1 k1 k2 fun s2 I2 => ?_
      refine sh _ [] _ s2 σ H1 _ (kept_M k2.fi) I2 ?_
      refine first sr er po fun vs H2 ⟨ρ1, S1, ds, x1, s1, r1, p1⟩ => ?_
      refine first s1 (er.mono x1) p1 fun zs H3 ⟨ρ2, S2, es', x2, s3, r2, p2⟩ => ?_
      intro us ws s4 I4 q1 q2
      exact run_cmM F hK hr tk I4 (stands_of (r1.mono x2) q1) (stands_of r2 q2) s3 p2
end
end
end Mi
set_option Elab.async false
set_option linter.all false
set_option maxHeartbeats 1000000
namespace Mi
open PySem PySem.Spec PyProof.Rows L2
def EndX (L : Lk) (D : Ends) : Fl → Env → L2.St → Rho → Hp → Prop
  | .next, _, σ', _, H' => D.nx σ' H'
  | .ret d, _, _, ρ', H' => ∀ v, RD L ρ' H' d v → D.rt v H'
  | .brk, _, σ', _, H' => D.bk σ' H'
  | .cont, _, σ', _, H' => D.ct σ' H'
def PostX (L : Lk) (W : WX) (D : Ends) (ρ : Rho) (H : Hp) : XR → Prop
  | .fin f η S => ∀ ρ' H' σ', Ext ρ H ρ' H' → SR L ρ' S H' → ER L ρ' H' η σ' → EndX L D f η σ' ρ' H'
  | .exc e η S => ∀ ρ' H' σ' cls dx, Ext ρ H ρ' H' → SR L ρ' S H' → ER L ρ' H' η σ' → RX L ρ' H' e cls dx → W cls (some dx) σ' H'
  | .bad => False
/-- the reading of a suite that Mini runs as f -/
def tS (L : Lk) (W : WX) (f : Env → Store → XR) : TS := fun D σ H => ∃ ρ S η, SR L ρ S H ∧ ER L ρ H η σ ∧ PostX L W D ρ H (f η S)
section
variable {α β : Type} {L : Lk} {W : WX} {D : Ends} {σ : L2.St} {ρ ρ1 : Rho} {H H1 : Hp} {S : Store} {η : Env} {R : Rho → Hp → α → β → Prop}
theorem PostX.ext (x : Ext ρ H ρ1 H1) : ∀ {r : XR}, PostX L W D ρ H r → PostX L W D ρ1 H1 r
  | .fin f η S, h => fun ρ' H' σ' y => h ρ' H' σ' (x.trans y)
  | .exc e η S, h => fun ρ' H' σ' cls dx y => h ρ' H' σ' cls dx (x.trans y)
  | .bad, h => h
/-- behind a first part of a statement -/
def ThenX (L : Lk) (W : WX) (D : Ends) (ρ : Rho) (H : Hp) (R : Rho → Hp → α → β → Prop) (k : α → Store → XR) : β → Hp → Prop := fun b H1 => ∃ ρ1 S1 a, Ext ρ H ρ1 H1 ∧ SR L ρ1 S1 H1 ∧ R ρ1 H1 a b ∧ PostX L W D ρ1 H1 (k a S1)
theorem PostX.bind {m : M α} {k : α → Store → XR} (er : ER L ρ H η σ) (h : PostX L W D ρ H (thenX m η S k)) : Post L W σ ρ H R (ThenX L W D ρ H R k) (m S) := by
  unfold thenX at h
  cases q : m S with
  | ok a S1 =>
    rw [q] at h
    exact fun ρ1 H1 b x s r => ⟨ρ1, S1, a, x, s, r, PostX.ext x h⟩
  | exc e S1 =>
    rw [q] at h
    exact fun ρ' H' cls dx x s r => h ρ' H' σ cls dx x s (er.mono x) r
  | bad =>
    rw [q] at h
    exact h
theorem firstX {f : Env → M α} {k : α → Store → XR} {Q : β → Hp → Prop} (sr : SR L ρ S H) (er : ER L ρ H η σ) (h : PostX L W D ρ H (thenX (f η) η S k)) (g : ∀ b H1, ThenX L W D ρ H R k b H1 → Q b H1) : tM L W R f σ H Q :=
  ⟨ρ, S, η, sr, er, (PostX.bind er h).imp g⟩
theorem _root_.L2.PS.imp {X : Cx} {st : Stmt} {t t' : TS} (h : PS X st t) (f : ∀ D σ H, t' D σ H → t D σ H) : PS X st t' := ⟨fun pins s σ H D I w => h.run pins s σ H D I (f D σ H w)⟩
theorem _root_.L2.PSs.imp {X : Cx} {st : List Stmt} {t t' : TS} (h : PSs X st t) (f : ∀ D σ H, t' D σ H → t D σ H) : PSs X st t' := ⟨fun pins s σ H D I w => h.run pins s σ H D I (f D σ H w)⟩
theorem _root_.L2.PI.imp {X : Cx} {tg e : Expr} {t t' : TI} (h : PI X tg e t) (f : ∀ σ H R, t' σ H R → t σ H R) : PI X tg e t' := ⟨fun pins s σ H R I w => h.run pins s σ H R I (f σ H R w)⟩
theorem _root_.L2.PG.imp {X : Cx} {e : Expr} {t t' : TG} (h : PG X e t) (f : ∀ v σ H Q, t' v σ H Q → t v σ H Q) : PG X e t' := ⟨fun pins s σ H v u Q I r w => h.run pins s σ H v u Q I r (f v σ H Q w)⟩
theorem _root_.L2.PGs.imp {X : Cx} {e : List Expr} {t t' : TGs} (h : PGs X e t) (f : ∀ v σ H Q, t' v σ H Q → t v σ H Q) : PGs X e t' := ⟨fun pins s σ H v u Q I r w => h.run pins s σ H v u Q I r (f v σ H Q w)⟩
end
/-- only these slots change -/
def Only (ns : List Nat) (σ σ' : L2.St) : Prop := σ'.length = σ.length ∧ ∀ j, j ∉ ns → σ'[j]? = σ[j]?
theorem Only.refl {ns : List Nat} {σ : L2.St} : Only ns σ σ := ⟨rfl, fun _ _ => rfl⟩
theorem Only.trans {a b : List Nat} {σ σ1 σ2 : L2.St} (h : Only a σ σ1) (g : Only b σ1 σ2) : Only (a ++ b) σ σ2 :=
  ⟨g.1.trans h.1, fun j hj => by
    rw [List.mem_append, not_or] at hj
    rw [g.2 j hj.2, h.2 j hj.1]⟩
def tG (L : Lk) (tg : Tg) : TG := fun v σ H Q => ∃ ρ η d η', ER L ρ H η σ ∧ RD L ρ H d v ∧ asg tg d η = some η' ∧ ∀ σ', ER L ρ H η' σ' → Only (tgNs tg) σ σ' → Q σ' H
def tGs (L : Lk) (tgs : List Tg) : TGs := fun vs σ H Q => ∃ ρ η ds η', ER L ρ H η σ ∧ RDs L ρ H ds vs ∧ asgs tgs ds η = some η' ∧ ∀ σ', ER L ρ H η' σ' → Only (tgsNs tgs) σ σ' → Q σ' H
section
variable {X : Cx} {L : Lk} {W : WX} {P : Prog} {Φ : Call} {pos : Pos}
theorem pgm_name {i : Nat} {x : Str} (hN : X.N.Nodup) (hi : X.N[i]? = some x) (hx : Loc X.env.scope x) (hf : X.fn x = true ∨ X.env.scope.names.lookup x = some .local) : PG X (.Name x pos) (tG L (.n i)) := by
  refine (pg_name hN hi hx hf).imp fun v σ H Q ⟨ρ, η, d, η', er, r, e, k⟩ => ?_
  simp only [asg] at e
  by_cases h : i < η.length
  · rw [if_pos h] at e
    cases e
    refine k _ (er.set r i) ⟨by simp, fun j hj => ?_⟩
    simp only [tgNs, List.mem_singleton] at hj
    exact List.getElem?_set_ne (Ne.symm hj)
  · rw [if_neg h] at e; cases e
theorem pgsm_nil : PGs X [] (tGs L []) := by
  refine pgs_nil.imp fun v σ H Q ⟨ρ, η, d, η', er, r, e, k⟩ => ?_
  cases d with
  | nil =>
    simp only [asgs, Option.some.injEq] at e
    subst e
    simp only [RDs] at r
    exact ⟨r, k _ er .refl⟩
  | cons => simp [asgs] at e
theorem pgsm_cons {a : Expr} {as : List Expr} {t : Tg} {ts : List Tg} (h1 : PG X a (tG L t)) (h2 : PGs X as (tGs L ts)) (hs : (assignEach (a :: as) X.env).map (·.2) = assign a X.env :: (assignEach as X.env).map (·.2)) : PGs X (a :: as) (tGs L (t :: ts)) := by
  refine (pgs_cons h1 h2 hs).imp fun v σ H Q ⟨ρ, η, d, η', er, r, e, k⟩ => ?_
  cases d with
  | nil => simp [asgs] at e
  | cons x xs =>
    simp only [RDs] at r
    obtain ⟨w, ws, rfl, r1, rs⟩ := r
    simp only [asgs, Option.bind_eq_some_iff] at e
    obtain ⟨η1, e1, e2⟩ := e
    exact ⟨w, ws, rfl, ρ, η, x, η1, er, r1, e1, fun σ' er' o1 => ⟨ρ, η1, xs, η', er', rs, e2, fun σ'' er'' o2 => k _ er'' (by simpa only [tgsNs] using o1.trans o2)⟩⟩
theorem asgs_len : ∀ {ts : List Tg} {xs : List D} {η η' : Env}, asgs ts xs η = some η' → xs.length = ts.length
  | [], [], _, _, _ => rfl
  | [], _ :: _, _, _, h => by simp [asgs] at h
  | _ :: _, [], _, _, h => by simp [asgs] at h
  | t :: ts, x :: xs, η, η', h => by
    simp only [asgs, Option.bind_eq_some_iff] at h
    obtain ⟨η1, _, e2⟩ := h
    simp [asgs_len e2]
theorem pgm_tup {as : List Expr} {k : Nat} {ts : List Tg} (hK : X.K = L.K) (hc : X.calm = true) (h : PGs X as (tGs L ts)) (hn : (assignEach as X.env).length = ts.length) (hst : (assignEach as X.env).findIdx? (·.1) = none) : PG X (.Tuple as k pos) (tG L (.t ts)) := by
  refine (pg_tup hc h hn hst).imp fun v σ H Q ⟨ρ, η, d, η', er, r, e, k⟩ => ?_
  cases d with
  | tup xs =>
    simp only [asg] at e
    simp only [RD] at r
    obtain ⟨a, vs, rfl, ht, rs⟩ := r
    exact ⟨a, vs, rfl, by rw [hK]; exact ht.sq, by rw [← rs.length]; exact asgs_len e, ρ, η, xs, η', er, rs, e, fun σ' er' o => k σ' er' (by simpa only [tgNs] using o)⟩
  | _ => simp [asg] at e
end
section
variable {X : Cx} {L : Lk} {W : WX} {P : Prog} {Φ : Call} {pos : Pos} {e : Expr} {ea : E}
theorem psm_expr (he : PE X e (tE L W (ev P Φ ea))) (hs : swapsWith e none pos.line X.env = pure false) : PS X (.Expr e pos) (tS L W (ex P Φ (.ex ea))) := by
  refine (ps_expr he hs).imp fun D σ H ⟨ρ, S, η, sr, er, po⟩ => ?_
  unfold ex at po
  refine firstX sr er po fun x H1 ⟨ρ1, S1, d, x1, s1, r1, p1⟩ => ?_
  exact p1 ρ1 H1 σ (.refl _ _) s1 (er.mono x1)
theorem psm_ret (he : PE X e (tE L W (ev P Φ ea))) : PS X (.Return (some e) pos) (tS L W (ex P Φ (.ret ea))) := by
  refine (ps_ret he).imp fun D σ H ⟨ρ, S, η, sr, er, po⟩ => ?_
  unfold ex at po
  refine firstX sr er po fun x H1 ⟨ρ1, S1, d, x1, s1, r1, p1⟩ => ?_
  exact p1 ρ1 H1 σ (.refl _ _) s1 (er.mono x1) x r1
theorem psm_retN : PS X (.Return none pos) (tS L W (ex P Φ (.ret (.c .none)))) := by
  refine ps_retN.imp fun D σ H ⟨ρ, S, η, sr, er, po⟩ => ?_
  unfold ex ev at po
  exact po ρ H σ (.refl _ _) sr er .non (by simp)
theorem psm_pass : PS X (.Pass pos) (tS L W (ex P Φ .pass)) := ps_pass.imp fun D σ H ⟨ρ, S, η, sr, er, po⟩ => by
  unfold ex at po
  exact po ρ H σ (.refl _ _) sr er
theorem psm_doc {x j pos pos'} : PS X (.Expr (.Constant (.str x) j pos) pos') (tS L W (ex P Φ .pass)) := ps_doc.imp fun D σ H ⟨ρ, S, η, sr, er, po⟩ => by
  unfold ex at po
  exact po ρ H σ (.refl _ _) sr er
theorem psm_brk : PS X (.Break pos) (tS L W (ex P Φ .brk)) := ps_break.imp fun D σ H ⟨ρ, S, η, sr, er, po⟩ => by
  unfold ex at po
  exact po ρ H σ (.refl _ _) sr er
theorem psm_cont : PS X (.Continue pos) (tS L W (ex P Φ .cont)) := ps_continue.imp fun D σ H ⟨ρ, S, η, sr, er, po⟩ => by
  unfold ex at po
  exact po ρ H σ (.refl _ _) sr er
theorem psm_dead {st : Stmt} : PS X st (tS L W (ex P Φ .dead)) := ps_never.imp fun D σ H ⟨ρ, S, η, sr, er, po⟩ => by
  unfold ex at po
  exact po
theorem pssm_dead {st : List Stmt} : PSs X st (tS L W (exs P Φ [.dead])) := pss_never.imp fun D σ H ⟨ρ, S, η, sr, er, po⟩ => by
  unfold exs ex at po
  exact po
theorem psm_set {tg : Tg} {t : Expr} (he : PE X e (tE L W (ev P Φ ea))) (hg : PG X t (tG L tg)) (hs : swapsWithSole [t] e pos.line X.env = pure false) (hw : swappedStores [t] e X.env = pure none) (h1 : (assignEach [t] X.env).map (·.2) = [assign t X.env]) :
    PS X (.Assign [t] e pos) (tS L W (ex P Φ (.set tg ea))) := by
  refine (ps_asg he hg hs hw h1).imp fun D σ H ⟨ρ, S, η, sr, er, po⟩ => ?_
  unfold ex at po
  refine firstX sr er po fun x H1 ⟨ρ1, S1, d, x1, s1, r1, p1⟩ => ?_
  cases q : asg tg d η with
  | none => simp only [q] at p1; exact p1.elim
  | some η1 =>
    simp only [q] at p1
    exact ⟨ρ1, η, d, η1, er.mono x1, r1, q, fun σ' er' _ => p1 ρ1 H1 σ' (.refl _ _) s1 er'⟩
theorem psm_setN {i : Nat} {x : Str} {p : Pos} (hN : X.N.Nodup) (hi : X.N[i]? = some x) (hx : Loc X.env.scope x) (he : PE X e (tE L W (ev P Φ ea))) (hs : swapsWith e (some (.Name x p)) pos.line X.env = pure false) (hf : X.fn x = true ∨ X.env.scope.names.lookup x = some .local) :
    PS X (.Assign [.Name x p] e pos) (tS L W (ex P Φ (.set (.n i) ea))) := by
  refine (ps_set hN hi hx he hs hf).imp fun D σ H ⟨ρ, S, η, sr, er, po⟩ => ?_
  unfold ex at po
  refine firstX sr er po fun y H1 ⟨ρ1, S1, d, x1, s1, r1, p1⟩ => ?_
  by_cases h : i < η.length
  · simp only [asg, if_pos h] at p1
    exact p1 ρ1 H1 _ (.refl _ _) s1 ((er.mono x1).set r1 i)
  · simp only [asg, if_neg h] at p1
    exact p1.elim
theorem pssm_nil : PSs X [] (tS L W (exs P Φ [])) := pss_nil.imp fun D σ H ⟨ρ, S, η, sr, er, po⟩ => by
  unfold exs at po
  exact po ρ H σ (.refl _ _) sr er
theorem pssm_cons {st : Stmt} {sts : List Stmt} {s : St} {ss : List St} (h1 : PS X st (tS L W (ex P Φ s))) (h2 : PSs X sts (tS L W (exs P Φ ss))) : PSs X (st :: sts) (tS L W (exs P Φ (s :: ss))) := by
  refine (pss_cons h1 h2).imp fun D σ H ⟨ρ, S, η, sr, er, po⟩ => ⟨ρ, S, η, sr, er, ?_⟩
  unfold exs at po
  cases q : ex P Φ s η S with
  | bad => rw [q] at po; exact po
  | exc e η' S' => rw [q] at po; exact po
  | fin f η' S' =>
    rw [q] at po
    cases f with
    | next => exact fun ρ' H' σ' x sr' er' => ⟨ρ', S', η', sr', er', PostX.ext x po⟩
    | ret d => exact po
    | brk => exact po
    | cont => exact po
theorem psm_if {c : Expr} {ec : E} {a b : List Stmt} {sa sb : List St} (hc : PT X c (tT L W (evT P Φ ec))) (ha : PSs X a (tS L W (exs P Φ sa))) (hb : PSs X b (tS L W (exs P Φ sb))) : PS X (.If c a b pos) (tS L W (ex P Φ (.ite ec sa sb))) := by
  refine (ps_if hc ha hb).imp fun D σ H ⟨ρ, S, η, sr, er, po⟩ => ?_
  unfold ex at po
  refine firstX (f := evT P Φ ec) sr er po fun t H1 ⟨ρ1, S1, d, x1, s1, r1, p1⟩ => ?_
  cases r1
  dsimp only at p1
  cases t with
  | true =>
    rw [if_pos rfl] at p1 ⊢
    exact ⟨ρ1, S1, η, s1, er.mono x1, p1⟩
  | false =>
    rw [if_neg Bool.false_ne_true] at p1 ⊢
    exact ⟨ρ1, S1, η, s1, er.mono x1, p1⟩
theorem psm_while {c : Expr} {ec : E} {n : Nat} {body : List Stmt} {sb : List St} (hp : PassesOwn (model X.prog X.w) X.A X.env X.xe) (hc : PT X c (tT L W (evT P Φ ec))) (hb : PSs X body (tS L W (exs P Φ sb))) : PS X (.While c body [] pos) (tS L W (ex P Φ (.while_ n ec sb))) := by
  refine (ps_while hp hc hb).imp fun D σ H ⟨ρ, S, η, sr, er, po⟩ => ?_
  unfold ex at po
  refine ⟨fun m σ H => ∃ ρ S η, SR L ρ S H ∧ ER L ρ H η σ ∧ PostX L W D ρ H (whileX (evT P Φ ec) (fun η S => exs P Φ sb η S) m η S), ⟨n, ρ, S, η, sr, er, po⟩, ?_⟩
  rintro m σ H ⟨ρ, S, η, sr, er, po⟩
  cases m with
  | zero => unfold whileX at po; exact po.elim
  | succ m =>
    unfold whileX at po
    refine firstX (f := evT P Φ ec) sr er po fun t H1 ⟨ρ1, S1, d, x1, s1, r1, p1⟩ => ?_
    cases r1
    dsimp only at p1
    cases t with
    | false =>
      rw [if_neg Bool.false_ne_true] at p1 ⊢
      exact p1 ρ1 H1 σ (.refl _ _) s1 (er.mono x1)
    | true =>
      rw [if_pos rfl] at p1 ⊢
      refine ⟨fun σ' H' => ∃ ρ S η, SR L ρ S H' ∧ ER L ρ H' η σ' ∧ PostX L W D ρ H' (whileX (evT P Φ ec) (fun η S => exs P Φ sb η S) m η S), fun σ' H' h => ⟨m, Nat.lt_succ_self _, h⟩, ρ1, S1, η, s1, er.mono x1, ?_⟩
      cases q : exs P Φ sb η S1 with
      | bad => rw [q] at p1; exact p1
      | exc e η' S' => rw [q] at p1; exact p1
      | fin f η' S' =>
        rw [q] at p1
        cases f with
        | next => exact fun ρ' H' σ' x sr' er' => ⟨ρ', S', η', sr', er', PostX.ext x p1⟩
        | cont => exact fun ρ' H' σ' x sr' er' => ⟨ρ', S', η', sr', er', PostX.ext x p1⟩
        | brk => exact p1
        | ret d => exact p1
end
end Mi
set_option Elab.async false
set_option linter.all false
set_option maxHeartbeats 1000000
namespace Mi
open PySem PySem.Spec PyProof.Rows L2
/-- an iterator gives these values -/
def JM (L : Lk) (J : It) (ρ : Rho) (H : Hp) (xs : List D) : Prop := ∀ ρ' S' H', Ext ρ H ρ' H' → SR L ρ' S' H' →
  (∀ i x, xs[i]? = some x → J.go i H' ∧ ∀ v H'', J.yld i H' v H'' → Ext ρ' H' ρ' H'' ∧ SR L ρ' S' H'' ∧ RD L ρ' H'' x v) ∧ ∀ i, xs.length ≤ i → J.stop i H'
def iM (L : Lk) (W : WX) (P : Prog) (Φ : Call) (k : ItK) (ia : List E) : TI := fun σ H R => tA L W (evs P Φ ia) σ H fun vs H1 => ∃ ρ S ds xs, SR L ρ S H1 ∧ RDs L ρ H1 ds vs ∧ items k ds = some xs ∧ ∀ J, JM L J ρ H1 xs → R J H1
section
variable {X : Cx} {L : Lk} {W : WX} {P : Prog} {Φ : Call} {pos p : Pos} {tg e : Expr} {ea : E} {ρ : Rho} {H : Hp} {S : Store}
theorem jm_list (hK : X.K = L.K) {a : Addr} {xs : List D} {vs : List V} (hl : LstF L ρ H a vs) (r : RDs L ρ H xs vs) : JM L (Itl X.K a) ρ H xs := by
  intro ρ' S' H' x sr
  have sq : SqL X.K H' a vs := by rw [hK]; exact (hl.mono x).sq
  refine ⟨fun i y hy => ?_, fun i hi => ⟨vs, sq, by rw [← r.length]; exact hi⟩⟩
  obtain ⟨v, hv, rv⟩ := r.get hy
  refine ⟨⟨vs, v, sq, hv⟩, fun w H'' yl => ?_⟩
  obtain ⟨rfl, q⟩ := yl
  have e := q vs sq
  rw [hv] at e
  cases e
  exact ⟨.refl _ _, sr, RD.mono x _ _ rv⟩
theorem jm_tup (hK : X.K = L.K) {a : Addr} {xs : List D} {vs : List V} (hl : TupF L ρ H a vs) (r : RDs L ρ H xs vs) : JM L (Itt X.K a) ρ H xs := by
  intro ρ' S' H' x sr
  have sq : SqT X.K H' a vs := by rw [hK]; exact (hl.mono x).sq
  refine ⟨fun i y hy => ?_, fun i hi => ⟨vs, sq, by rw [← r.length]; exact hi⟩⟩
  obtain ⟨v, hv, rv⟩ := r.get hy
  refine ⟨⟨vs, v, sq, hv⟩, fun w H'' yl => ?_⟩
  obtain ⟨rfl, q⟩ := yl
  have e := q vs sq
  rw [hv] at e
  cases e
  exact ⟨.refl _ _, sr, RD.mono x _ _ rv⟩
theorem jm_str {z : Str} : JM L (Its z) ρ H (z.cps.toList.map fun c => .str ⟨#[c]⟩) := by
  intro ρ' S' H' x sr
  refine ⟨fun i y hy => ?_, fun i hi => ?_⟩
  · rw [List.getElem?_map] at hy
    obtain ⟨c, hc, rfl⟩ := Option.map_eq_some_iff.mp hy
    have hc' : z.cps[i]? = some c := by simpa using hc
    refine ⟨?_, fun w H'' yl => ?_⟩
    · exact (Array.getElem?_eq_some_iff.mp hc').1
    · obtain ⟨rfl, c', h1, rfl⟩ := yl
      rw [hc'] at h1
      cases h1
      exact ⟨.refl _ _, sr, by simp⟩
  · have : z.cps.size ≤ i := by simpa using hi
    exact this
theorem range_get (a b : Int) (i : Nat) (x : D) : (rangeD a b)[i]? = some x ↔ i < (b - a).toNat ∧ x = .int (a + i) := by
  unfold rangeD
  rw [List.getElem?_map]
  constructor
  · intro h
    obtain ⟨j, hj, rfl⟩ := Option.map_eq_some_iff.mp h
    obtain ⟨h1, h2⟩ := List.getElem?_eq_some_iff.mp hj
    have h1' : j < (b - a).toNat := List.mem_range.mp (List.mem_of_getElem? hj)
    simp at h1 h2
    subst h2
    exact ⟨h1', rfl⟩
  · rintro ⟨h, rfl⟩
    rw [List.getElem?_eq_getElem (by simpa using h)]
    simp
theorem jm_rng (a b : Int) : JM L (Itr a (b - a).toNat) ρ H (rangeD a b) := by
  intro ρ' S' H' x sr
  refine ⟨fun i y hy => ?_, fun i hi => ?_⟩
  · obtain ⟨h1, rfl⟩ := (range_get a b i y).mp hy
    refine ⟨h1, fun w H'' yl => ?_⟩
    obtain ⟨rfl, rfl⟩ := yl
    exact ⟨.refl _ _, sr, by simp⟩
  · unfold rangeD at hi
    simp at hi
    show (b - a).toNat ≤ i
    omega
/-- a list, a tuple or a str -/
theorem pim_seq (hK : X.K = L.K) (he : PE X e (tE L W (ev P Φ ea))) (hst : ∀ x, ea ≠ .st x) : PI X tg e (iM L W P Φ .seq [ea]) := by
  refine ⟨fun pins s σ H R I h => ?_⟩
  have h2 : tE L W (ev P Φ ea) σ H fun x H1 => ∃ ρ S d xs, SR L ρ S H1 ∧ RD L ρ H1 d x ∧ pureSeq d = some xs ∧ ∀ J, JM L J ρ H1 xs → R J H1 := by
    obtain ⟨ρ, S, η, sr, er, po⟩ := h
    rw [evs_one hst] at po
    refine first sr er po fun x H1 ⟨ρ1, S1, d, x1, s1, r1, p1⟩ => ?_
    obtain ⟨ρ2, S2, ds, xs, s2, r2, e2, k⟩ := p1 ρ1 H1 [x] (.refl _ _) s1 (.cons r1 .nil)
    cases ds with
    | nil => simp [items] at e2
    | cons d' t =>
      cases t with
      | cons _ _ => simp [items] at e2
      | nil =>
        obtain ⟨w, hw, r3⟩ := r2.one
        cases hw
        exact ⟨ρ2, S2, d', xs, s2, r3, e2, k⟩
  refine thn (he.run pins s σ H _ I h2) fun v s1 ⟨x, H1, I1, r1, ρ1, S1, d, xs, sr1, rd, e1, k⟩ => ?_
  have fp : ∀ b ∈ [s1.heap.objs.size], FpOk X pins H1 b := fun b hb => by
    have e : b = s1.heap.objs.size := by simpa using hb
    subst e
    exact I1.fpOk (Nat.le_refl _) (I1.hok.fresh (Nat.le_refl _))
  cases d with
  | list ys =>
    simp only [pureSeq, Option.some.injEq] at e1
    subst e1
    simp only [RD] at rd
    obtain ⟨a, vs, rfl, hl, rs⟩ := rd
    cases r1
    obtain ⟨its, rv, p, hz⟩ := I1.list (show SqL X.K H1 a vs by rw [hK]; exact hl.sq)
    refine wpAny_pyIter_list p.isList ?_
    exact ⟨s1.heap.objs.size, [s1.heap.objs.size], _, _, H1, rfl, I1.kept (t' := s1.toks) fun b o e => Heap.get?_push_of_some _ e, turn_list a _, ⟨_, Heap.get?_push_size _ rfl, rfl, rfl⟩, fp, k _ (jm_list hK hl rs)⟩
  | tup ys =>
    simp only [pureSeq, Option.some.injEq] at e1
    subst e1
    simp only [RD] at rd
    obtain ⟨a, vs, rfl, hl, rs⟩ := rd
    cases r1
    obtain ⟨its, rv, p, hz⟩ := I1.tuple (show SqT X.K H1 a vs by rw [hK]; exact hl.sq)
    refine wpAny_pyIter_tuple (show s1.heap.IsTuple a its.toArray from p) ?_
    exact ⟨s1.heap.objs.size, [s1.heap.objs.size], _, _, H1, rfl, I1.kept (t' := s1.toks) fun b o e => Heap.get?_push_of_some _ e, turn_tuple a _, ⟨_, Heap.get?_push_size _ rfl, rfl, rfl⟩, fp, k _ (jm_tup hK hl rs)⟩
  | str z =>
    simp only [pureSeq, Option.some.injEq] at e1
    subst e1
    simp only [RD_str] at rd
    subst rd
    obtain ⟨t, rfl⟩ := r1
    have q := k _ (jm_str (z := z))
    cases ha : z.cps.all (· < 128)
    · exact wpAny_pyIter_wide ha (pi_one (tk := s1.toks) I1 _ (turn_str _ z t "str_iterator" (.inr rfl)) ⟨_, Heap.get?_push_size _ rfl, rfl, rfl⟩ q)
    · exact wpAny_pyIter_ascii ha (pi_one (tk := s1.toks) I1 _ (turn_str _ z t "str_ascii_iterator" (.inl rfl)) ⟨_, Heap.get?_push_size _ rfl, rfl, rfl⟩ q)
  | _ => simp [pureSeq] at e1
/-- a dict whose values are walked: locked from then on -/
theorem jm_vals {a : Addr} {o : Obj} {kvs : List (Key × V)} {xs : List D} (hl : H a = some (.frz o (.dK kvs))) (nl : ¬ live ρ a) (r : RDs L ρ H xs (kvs.map (·.2))) : JM L (Itd a o kvs) ρ H xs := by
  intro ρ' S' H' x sr
  have hl' := (x.keep _ _ hl nl).1
  have hlen : xs.length = kvs.length := by rw [r.length, List.length_map]
  refine ⟨fun i y hy => ?_, fun i hi => ⟨hl', by omega⟩⟩
  have hi : i < xs.length := (List.getElem?_eq_some_iff.mp hy).1
  obtain ⟨v, hv, rv⟩ := r.get hy
  refine ⟨⟨hl', by omega⟩, fun w H'' yl => ?_⟩
  obtain ⟨rfl, k, hk⟩ := yl
  rw [List.getElem?_map, hk] at hv
  cases hv
  exact ⟨.refl _ _, sr, RD.mono x _ _ rv⟩
theorem SR.kill (s : SR L ρ S H) {n : Nat} {a : Addr} {o : HO} (hn : n < S.length) (hr : ρ[n]? = some (some a)) : Ext ρ H (ρ.set n none) (upd H a o) ∧ SR L (ρ.set n none) (S.set n .dead) (upd H a o) := by
  have hx : Ext ρ H (ρ.set n none) (upd H a o) := by
    have x := ext_set (i := n) (ρ := ρ) (H := H)
    refine ⟨x.len, x.pre, fun b u e nl => ?_⟩
    have hb : b ≠ a := fun z => nl (by rw [z]; exact ⟨n, hr⟩)
    rw [upd_ne hb]
    exact x.keep b u e nl
  have f := s.freeze hn
  refine ⟨hx, f.len, f.inj, fun i c e => ?_⟩
  rcases f.cell i c e with h | ⟨b, h1, _⟩
  · exact .inl h
  · have hi : i ≠ n := fun z => by
      rw [z, List.getElem?_set_self (by rw [s.len]; exact hn)] at h1
      cases h1
    rw [List.getElem?_set_ne (Ne.symm hi)] at e h1
    rcases s.cell i c e with ⟨_, h2⟩ | ⟨b', h2, h3⟩
    · rw [h1] at h2
      cases h2
    · rw [h1] at h2
      cases h2
      have hb : b ≠ a := fun z => hi (s.inj i n a (by rw [← z]; exact h1) hr)
      exact .inr ⟨b, by rw [List.getElem?_set_ne (Ne.symm hi)]; exact h1, CR.mono hx (upd_ne hb) h3⟩
theorem kill_rd (sr : SR L ρ S H) {d d' : D} {v : V} {S' : Store} (r : RD L ρ H d v) (h : killD d S = some (d', S')) : ∃ a ks xs vs, v = .ref a ∧ d' = .dict ks xs ∧ H a = some (.dK (ks.zip vs)) ∧ (ks.zip vs).map (·.2) = vs ∧
    ∀ od, ∃ ρ', Ext ρ H ρ' (upd H a (.frz od (.dK (ks.zip vs)))) ∧ SR L ρ' S' (upd H a (.frz od (.dK (ks.zip vs)))) ∧ RDs L ρ' (upd H a (.frz od (.dK (ks.zip vs)))) xs vs ∧ RD L ρ' (upd H a (.frz od (.dK (ks.zip vs)))) d' v ∧ ¬ live ρ' a := by
  cases d with
  | ref i =>
    unfold killD at h
    cases q : S[i]? with
    | none => simp [q] at h
    | some c =>
      have hi : i < S.length := (List.getElem?_eq_some_iff.mp q).1
      cases c with
      | dK kvs =>
        cases kvs with
        | nil => simp [q] at h
        | cons kv kvs =>
          simp only [q, Option.some.injEq, Prod.mk.injEq] at h
          obtain ⟨rfl, rfl⟩ := h
          obtain ⟨a, rfl, hr, vs, ha, nd, rs⟩ := sr.at r q (by simp)
          have hlen : ((kv :: kvs).map (·.1)).length = vs.length := by rw [← rs.length, List.length_map, List.length_map]
          refine ⟨a, _, _, vs, rfl, rfl, ha, by rw [List.map_snd_zip (by omega)], fun od => ?_⟩
          obtain ⟨x, s⟩ := SR.kill (o := .frz od (.dK (((kv :: kvs).map (·.1)).zip vs))) sr hi hr
          refine ⟨_, x, s, rs.mono x, ?_, not_live_set sr hr⟩
          simp only [RD]
          exact ⟨a, vs, rfl, ⟨.inr ⟨by simp, od, upd_same⟩, nd, not_live_set sr hr, hlen⟩, rs.mono x⟩
      | _ => simp [q] at h
  | _ => simp [killD] at h
/-- what an expression gives, locked -/
def tHeld (t : TE) : TE := fun σ H Q => t σ H fun x H1 => ∃ d u, x = .ref d ∧ H1 d = some u ∧ Mut (some u) ∧ ∀ od, Q x (upd H1 d (.frz od u))
theorem pe_held {t : TE} (h : PE X e t) : PE X e (tHeld t) := by
  refine ⟨fun pins s σ H Q I hw => ?_⟩
  refine thn (h.run pins s σ H _ I hw) fun v s1 ⟨x, H1, I1, r, d, u, ex, hd, mu, q⟩ => ?_
  obtain ⟨od, I2⟩ := I1.lock hd mu
  exact ⟨x, _, I2, r, q od⟩
/-- the values of a dict that is given up -/
theorem pim_vals {apos cpos : Pos} (he : PE X e (tE L W (ev P Φ ea))) (hbase : attributeBase e "values" X.env (eval e X.env) = eval e X.env) (hline : (apos.endLine == cpos.line) = true) (hst : ∀ x, (E.vals ea) ≠ .st x) :
    PI X tg (.Call (.Attribute e "values" apos) [] [] cpos) (iM L W P Φ .vals [.vals ea]) := by
  refine ⟨fun pins s σ H R I h => (pi_values (pe_held he) hbase hline).run pins s σ H R I ?_⟩
  obtain ⟨ρ, S, η, sr, er, po⟩ := h
  rw [evs_one hst] at po
  have e0 : (ev P Φ (.vals ea) η >>= fun x => (Pure.pure [x] : M (List D))) = (ev P Φ ea η >>= fun x => eff (killD x) >>= fun y => Pure.pure [y]) := by
    conv => lhs; unfold ev
    simp only [M.assoc]
  replace po : Post L W σ ρ H (RDs L) _ ((ev P Φ (.vals ea) η >>= fun x => (Pure.pure [x] : M (List D))) S) := po
  rw [e0] at po
  unfold iVals tHeld
  refine first sr er po fun x H1 ⟨ρ1, S1, d, x1, s1, r1, p1⟩ => ?_
  obtain ⟨d', S', e, k⟩ : ∃ d' S', killD d S1 = some (d', S') ∧ Post L W σ ρ1 H1 (RDs L) (fun vs H1 => ∃ ρ S ds xs, SR L ρ S H1 ∧ RDs L ρ H1 ds vs ∧ items .vals ds = some xs ∧ ∀ J, JM L J ρ H1 xs → R J H1) (.ok [d'] S') := by
    replace p1 : Post L W σ ρ1 H1 (RDs L) (fun vs H1 => ∃ ρ S ds xs, SR L ρ S H1 ∧ RDs L ρ H1 ds vs ∧ items .vals ds = some xs ∧ ∀ J, JM L J ρ H1 xs → R J H1) ((eff (killD d) >>= fun y => (Pure.pure [y] : M (List D))) S1) := p1
    cases e : killD d S1 with
    | none =>
      have z : (eff (killD d) >>= fun y => (Pure.pure [y] : M (List D))) S1 = .bad := by
        show M.bind (eff (killD d)) _ S1 = _
        unfold M.bind eff
        simp only [e]
      rw [z] at p1
      exact p1.elim
    | some q =>
      obtain ⟨d', S'⟩ := q
      have z : (eff (killD d) >>= fun y => (Pure.pure [y] : M (List D))) S1 = .ok [d'] S' := by
        show M.bind (eff (killD d)) _ S1 = _
        unfold M.bind eff
        simp only [e]
        rfl
      rw [z] at p1
      exact ⟨d', S', rfl, p1⟩
  obtain ⟨a, ks, xs, vs, rfl, rfl, ha, hz, w⟩ := kill_rd s1 r1 e
  refine ⟨a, _, rfl, ha, trivial, fun od => ?_⟩
  obtain ⟨ρ2, x2, s2, rs, r2, nl⟩ := w od
  obtain ⟨ρ3, S3, ds, ys, s3, r3, e3, kk⟩ := k ρ2 _ _ x2 s2 (.cons r2 .nil)
  rcases ds with _ | ⟨y, _ | ⟨y2, t⟩⟩
  · simp [items] at e3
  · cases y with
    | dict ks' xs' =>
      have e3 : xs' = ys := by simpa [items] using e3
      subst e3
      obtain ⟨w', hw, r4⟩ := r3.one
      cases hw
      simp only [RD] at r4
      obtain ⟨b, vs', eb, ⟨hb, _, nl', hlen⟩, rs'⟩ := r4
      cases eb
      have hz' : (ks'.zip vs').map (·.2) = vs' := by rw [List.map_snd_zip (by omega)]
      rcases hb with hb | ⟨_, o, hb⟩
      · rw [upd_same] at hb
        cases hb
      · rw [← hz'] at rs'
        exact ⟨a, o, _, rfl, hb, kk _ (jm_vals hb nl' rs')⟩
    | _ => simp [items] at e3
  · simp [items] at e3
theorem rng1_of {ds xs : List D} (h : items .rng1 ds = some xs) : ∃ n, ds = [.int n] ∧ rangeOk 0 n = true ∧ xs = rangeD 0 n := by
  rcases ds with _ | ⟨x, _ | ⟨y, t⟩⟩
  · simp [items] at h
  · cases x with
    | int n =>
      simp only [items] at h
      by_cases hz : rangeOk 0 n = true
      · rw [if_pos hz] at h; cases h; exact ⟨n, rfl, hz, rfl⟩
      · rw [if_neg hz] at h; cases h
    | _ => simp [items] at h
  · cases x <;> simp [items] at h
theorem rng2_of {ds xs : List D} (h : items .rng2 ds = some xs) : ∃ a b, ds = [.int a, .int b] ∧ rangeOk a b = true ∧ xs = rangeD a b := by
  rcases ds with _ | ⟨x, _ | ⟨y, _ | ⟨z, t⟩⟩⟩
  · simp [items] at h
  · cases x <;> simp [items] at h
  · cases x with
    | int n =>
      cases y with
      | int m =>
        simp only [items] at h
        by_cases hz : rangeOk n m = true
        · rw [if_pos hz] at h; cases h; exact ⟨n, m, rfl, hz, rfl⟩
        · rw [if_neg hz] at h; cases h
      | _ => simp [items] at h
    | _ => simp [items] at h
  · cases x <;> cases y <;> simp [items] at h
theorem pim_rng1 {a : Expr} {es : List E} (hg : Gl X "range") (hm : X.mg "range" = none) (ha : PA X [a] (tA L W (evs P Φ es))) (hs : starEach [a] X.env = [(false, eval a X.env)]) : PI X tg (.Call (.Name "range" p) [a] [] pos) (iM L W P Φ .rng1 es) := by
  refine (pi_range1 hg hm ha hs).imp fun σ H R h => tM_mono _ _ _ _ (fun vs H1 q => ?_) h
  obtain ⟨ρ2, S2, ds, xs, s2, r2, e2, k⟩ := q
  obtain ⟨n, rfl, hz, rfl⟩ := rng1_of e2
  obtain ⟨v, rfl, rv⟩ := r2.one
  simp only [RD_int] at rv
  subst rv
  have q := rgOk_of hz
  have jj := k _ (jm_rng 0 n)
  rw [Int.sub_zero] at jj
  exact ⟨n, rfl, q.2.2.1, q.2.2.2.1, jj⟩
theorem pim_rng2 {a b : Expr} {es : List E} (hg : Gl X "range") (hm : X.mg "range" = none) (ha : PA X [a, b] (tA L W (evs P Φ es))) (hs : starEach [a, b] X.env = [(false, eval a X.env), (false, eval b X.env)]) (hs2 : starEach [b] X.env = [(false, eval b X.env)]) : PI X tg (.Call (.Name "range" p) [a, b] [] pos) (iM L W P Φ .rng2 es) := by
  refine (pi_range2 hg hm ha hs hs2).imp fun σ H R h => tM_mono _ _ _ _ (fun vs H1 q => ?_) h
  obtain ⟨ρ2, S2, ds, xs, s2, r2, e2, k⟩ := q
  obtain ⟨m, n, rfl, hz, rfl⟩ := rng2_of e2
  obtain ⟨v, w, rfl, rv, rw'⟩ := r2.two
  simp only [RD_int] at rv rw'
  subst rv rw'
  have q := rgOk_of hz
  exact ⟨m, n, rfl, ⟨q.1, q.2.1, q.2.2.1, q.2.2.2.1⟩, k _ (jm_rng m n)⟩
theorem count_get : ∀ (xs : List D) (k : Int) (i : Nat) (y : D), (countUp k xs)[i]? = some y → ∃ x, xs[i]? = some x ∧ y = .tup [.int (k + i), x]
  | [], k, i, y, h => by simp [countUp] at h
  | x :: xs, k, 0, y, h => by
    simp [countUp] at h
    exact ⟨x, rfl, by simp [h]⟩
  | x :: xs, k, i + 1, y, h => by
    simp only [countUp, List.getElem?_cons_succ] at h
    obtain ⟨z, h1, h2⟩ := count_get xs (k + 1) i y h
    refine ⟨z, by simpa using h1, ?_⟩
    rw [h2]
    congr 3
    push_cast
    omega
theorem count_len : ∀ (xs : List D) (k : Int), (countUp k xs).length = xs.length
  | [], _ => rfl
  | x :: xs, k => by simp [countUp, count_len xs]
theorem jm_enum (hK : X.K = L.K) {a : Addr} {xs : List D} {vs : List V} (hl : LstF L ρ H a vs) (r : RDs L ρ H xs vs) : JM L (Ite X.K a) ρ H (countUp 0 xs) := by
  intro ρ' S' H' x sr
  have sq : SqL X.K H' a vs := by rw [hK]; exact (hl.mono x).sq
  refine ⟨fun i y hy => ?_, fun i hi => ⟨vs, sq, by rw [← r.length, ← count_len xs 0]; exact hi⟩⟩
  obtain ⟨z, hz, rfl⟩ := count_get xs 0 i y hy
  obtain ⟨v, hv, rv⟩ := r.get hz
  refine ⟨⟨vs, v, sq, hv⟩, fun w H'' yl => ?_⟩
  obtain ⟨T, u, rfl, hT, rfl, q⟩ := yl
  have e := q vs sq
  rw [hv] at e
  cases e
  refine ⟨sr.ext_new hT, sr.new hT, upd_tup sr hT (.cons (by simp) (.cons (RD.mono x _ _ rv) .nil))⟩
theorem pair_get : ∀ (xs ys : List D) (i : Nat) (z : D), (pairUp xs ys)[i]? = some z → ∃ x y, xs[i]? = some x ∧ ys[i]? = some y ∧ z = .tup [x, y]
  | [], ys, i, z, h => by simp [pairUp] at h
  | x :: xs, [], i, z, h => by simp [pairUp] at h
  | x :: xs, y :: ys, 0, z, h => by
    simp [pairUp] at h
    exact ⟨x, y, rfl, rfl, h.symm⟩
  | x :: xs, y :: ys, i + 1, z, h => by
    simp only [pairUp, List.getElem?_cons_succ] at h
    obtain ⟨u, v, h1, h2, h3⟩ := pair_get xs ys i z h
    exact ⟨u, v, by simpa using h1, by simpa using h2, h3⟩
theorem pair_len : ∀ (xs ys : List D), (pairUp xs ys).length = min xs.length ys.length
  | [], ys => by simp [pairUp]
  | x :: xs, [] => by simp [pairUp]
  | x :: xs, y :: ys => by simp [pairUp, pair_len xs ys]
theorem jm_zip (hK : X.K = L.K) {a b : Addr} {xs ys : List D} {vs ws : List V} (hl : LstF L ρ H a vs) (r : RDs L ρ H xs vs) (hl2 : LstF L ρ H b ws) (r2 : RDs L ρ H ys ws) : JM L (Itz X.K a b) ρ H (pairUp xs ys) := by
  intro ρ' S' H' x sr
  have sq : SqL X.K H' a vs := by rw [hK]; exact (hl.mono x).sq
  have sq2 : SqL X.K H' b ws := by rw [hK]; exact (hl2.mono x).sq
  refine ⟨fun i y hy => ?_, fun i hi => ⟨vs, ws, sq, sq2, by rw [pair_len, r.length, r2.length] at hi; omega⟩⟩
  obtain ⟨z, z2, hz, hz2, rfl⟩ := pair_get xs ys i y hy
  obtain ⟨v, hv, rv⟩ := r.get hz
  obtain ⟨v2, hv2, rv2⟩ := r2.get hz2
  refine ⟨⟨vs, ws, v, v2, sq, sq2, hv, hv2⟩, fun w H'' yl => ?_⟩
  obtain ⟨T, u, u2, rfl, hT, rfl, q, q2⟩ := yl
  have e := q vs sq
  rw [hv] at e
  cases e
  have e2 := q2 ws sq2
  rw [hv2] at e2
  cases e2
  refine ⟨sr.ext_new hT, sr.new hT, upd_tup sr hT (.cons (RD.mono x _ _ rv) (.cons (RD.mono x _ _ rv2) .nil))⟩
theorem pim_enumL {a : Expr} {es : List E} {elts : List Expr} {kk : Nat} {tpos : Pos} (hK : X.K = L.K) (hg : Gl X "enumerate") (hm : X.mg "enumerate" = none) (ha : PA X [a] (tA L W (evs P Φ es))) (hs : starEach [a] X.env = [(false, eval a X.env)]) : PI X (.Tuple elts kk tpos) (.Call (.Name "enumerate" p) [a] [] pos) (iM L W P Φ .enumL es) := by
  refine (pi_enum hg hm ha hs).imp fun σ H R h => tM_mono _ _ _ _ (fun vs H1 q => ?_) h
  obtain ⟨ρ2, S2, ds, xs, s2, r2, e2, k⟩ := q
  rcases ds with _ | ⟨x, _ | ⟨y, t⟩⟩
  · simp [items] at e2
  · cases x with
    | list ys =>
      simp only [items, Option.some.injEq] at e2
      subst e2
      obtain ⟨v, rfl, rv⟩ := r2.one
      simp only [RD] at rv
      obtain ⟨a1, ws, rfl, hl, rs⟩ := rv
      exact ⟨a1, ws, rfl, by rw [hK]; exact hl.sq, k _ (jm_enum hK hl rs)⟩
    | _ => simp [items] at e2
  · cases x <;> simp [items] at e2
theorem psm_for {iter : Expr} {k : ItK} {ia : List E} {tg' : Tg} {body : List Stmt} {sb : List St} (hp : PassesOwn (model X.prog X.w) X.A X.env X.xe) (hc : X.calm = true) (hi : PI X tg iter (iM L W P Φ k ia)) (hg : PG X tg (tG L tg')) (hb : PSs X body (tS L W (exs P Φ sb))) (hs : ∀ x, foldedSetIterable iter X.env x = pure x) :
    PS X (.For tg iter body [] pos) (tS L W (ex P Φ (.for_ k ia tg' sb))) := by
  refine (ps_for hp hc hi hg hb hs).imp fun D σ H ⟨ρ, S, η, sr, er, po⟩ => ?_
  unfold ex at po
  refine firstX sr er po fun vs H1 ⟨ρ1, S1, ds, x1, s1, r1, p1⟩ => ?_
  dsimp only at p1
  cases q : items k ds with
  | none => rw [q] at p1; exact p1.elim
  | some xs =>
    rw [q] at p1
    dsimp only at p1
    refine ⟨ρ1, S1, ds, xs, s1, r1, q, fun J hJ => ?_⟩
    refine ⟨fun i m σ H => m = xs.length - i ∧ i ≤ xs.length ∧ ∃ ρ S η, Ext ρ1 H1 ρ H ∧ SR L ρ S H ∧ ER L ρ H η σ ∧ PostX L W D ρ H (forX tg' (fun η S => exs P Φ sb η S) (xs.drop i) η S), ⟨xs.length, by simp, Nat.zero_le _, ρ1, S1, η, .refl _ _, s1, er.mono x1, by simpa using p1⟩, ?_⟩
    rintro i m σ H ⟨rfl, hi, ρ, S, η, x2, s2, e2, p2⟩
    obtain ⟨j1, j2⟩ := hJ ρ S H x2 s2
    by_cases hlt : i < xs.length
    · have hx : xs[i]? = some xs[i] := List.getElem?_eq_getElem hlt
      obtain ⟨g1, g2⟩ := j1 i _ hx
      rw [List.drop_eq_getElem_cons hlt] at p2
      unfold forX at p2
      refine .inr ⟨g1, fun σ' H' => i + 1 ≤ xs.length ∧ ∃ ρ S η, Ext ρ1 H1 ρ H' ∧ SR L ρ S H' ∧ ER L ρ H' η σ' ∧ PostX L W D ρ H' (forX tg' (fun η S => exs P Φ sb η S) (xs.drop (i + 1)) η S), fun σ' H' h => ⟨xs.length - (i + 1), by omega, rfl, h.1, h.2⟩, fun v H' yl => ?_⟩
      obtain ⟨x3, s3, r3⟩ := g2 v H' yl
      cases qa : asg tg' xs[i] η with
      | none => simp only [qa] at p2; exact p2.elim
      | some η1 =>
        simp only [qa] at p2
        refine ⟨ρ, η, xs[i], η1, e2.mono x3, r3, qa, fun σ' er' _ => ⟨ρ, S, η1, s3, er', ?_⟩⟩
        cases qb : exs P Φ sb η1 S with
        | bad => rw [qb] at p2; exact p2
        | exc e η' S' => rw [qb] at p2; exact PostX.ext x3 p2
        | fin f η' S' =>
          rw [qb] at p2
          cases f with
          | next => exact fun ρ' H'' σ'' x sr' er'' => ⟨hlt, ρ', S', η', (x2.trans x3).trans x, sr', er'', PostX.ext (x3.trans x) p2⟩
          | cont => exact fun ρ' H'' σ'' x sr' er'' => ⟨hlt, ρ', S', η', (x2.trans x3).trans x, sr', er'', PostX.ext (x3.trans x) p2⟩
          | brk => exact PostX.ext x3 p2
          | ret d => exact PostX.ext x3 p2
    · have e : i = xs.length := by omega
      subst e
      rw [List.drop_length] at p2
      unfold forX at p2
      exact .inl ⟨j2 _ (Nat.le_refl _), p2 ρ H σ (.refl _ _) s2 e2⟩
end
end Mi
set_option Elab.async false
set_option linter.all false
set_option maxHeartbeats 1000000
namespace Mi
open PySem PySem.Spec PyProof.Rows L2
open AutoSeq1 (wpAny_loadPart')
/-- enumerate(v) of one argument, v told by its iterator -/
theorem meets_enum1 {v : Value} {o : Obj} {Hh : Heap → Prop} (B : Begins v o Hh) :
    Meets (Builtin.«enumerate.__new__» ⟨[.type "enumerate", v], []⟩) (fun _ R s => Hh s.heap ∧
      R (.ok (.ret (.ref (s.heap.push o).objs.size))) { s with heap := (s.heap.push o).push { cls := .type "enumerate", data := .fields #[.none, .bool false, .ref s.heap.objs.size, rawInt 0, .none, .none] } }) :=
  .of_wp fun prog w A R s h => by
    obtain ⟨hp, g, d, tk, os⟩ := s; obtain ⟨h1, h⟩ := h
    have hsub := sub_enumerate
    have q1 : ∀ {A' : Around} {E : Value → Shared → Prop} {Q : Value → Shared → Prop}, Q (.ref hp.objs.size) ⟨hp.push o, g, d, tk, os⟩ → wpAny (model prog w) A' (pyIter v) Q E ⟨hp, g, d, tk, os⟩ :=
      fun q => B.iter prog w _ _ ⟨hp, g, d, tk, os⟩ _ h1 q
    wp_walk using q1
    refine wpAny_stack_any fun st => wpAny_pure ?_
    split
    · rename_i c _ _ _ _ _
      cases (c == Value.type "enumerate")
      · wp_walk using q1
        exact ⟨_, rfl, h⟩
      · wp_walk using q1
        exact ⟨_, rfl, h⟩
    · wp_walk using q1
      exact ⟨_, rfl, h⟩
theorem call_enum_tuple {prog : Program} {w : World} {A : Around} {E : Value → Shared → Prop} {s : Shared} {t : Addr} {its : Array Value} {Q : Value → Shared → Prop} (h1 : s.heap.IsTuple t its)
    (h : ∀ h', IsEnum h' (s.heap.objs.size + 1) s.heap.objs.size 0 .none → h'.IsTupleIter s.heap.objs.size t 0 →
      (∀ b o, s.heap.get? b = some o → h'.get? b = some o) → Q (.ref (s.heap.objs.size + 1)) { s with heap := h' }) :
    wpAny (model prog w) A (call (.type "enumerate") [.ref t]) Q E s := by
  refine callType_new F.called_enumerate (by decide) (F.typeCall_enumerate_1 _) (F.newCall_enumerate_1 _) (fun obj => F.args_object_init_2 obj _) F.entry_enumerate_new
    (meets_enum1 (begins_tuple t its)) ⟨h1, ?_⟩
  have hz : (s.heap.push { cls := .type "tuple_iterator", data := .fields #[.ref t, .int 0 0] }).objs.size = s.heap.objs.size + 1 := Heap.size_push ..
  show _ ∧ _
  rw [hz]
  have he : IsEnum ((s.heap.push { cls := .type "tuple_iterator", data := .fields #[.ref t, .int 0 0] }).push { cls := .type "enumerate", data := .fields #[.none, .bool false, .ref s.heap.objs.size, rawInt 0, .none, .none] }) (s.heap.objs.size + 1) s.heap.objs.size 0 .none := by
    have := Heap.get?_push_size (s.heap.push { cls := .type "tuple_iterator", data := .fields #[.ref t, .int 0 0] }) (o := { cls := .type "enumerate", data := .fields #[.none, .bool false, .ref s.heap.objs.size, rawInt 0, .none, .none] }) rfl
    rw [hz] at this; exact this
  exact ⟨⟨_, he, rfl⟩, h _ he ⟨_, Heap.get?_push_of_some _ (Heap.get?_push_size _ rfl), rfl, rfl⟩ fun b o x => Heap.get?_push_of_some _ (Heap.get?_push_of_some _ x)⟩
/-- the tuple at a, each item in a new pair -/
def Itet (K : PySem.W.Frag) (a : Addr) : It :=
  ⟨fun i H => ∃ (xs : List V) (x : V), SqT K H a xs ∧ xs[i]? = some x, fun i H v H' => ∃ T x, v = .ref T ∧ H T = none ∧ H' = upd H T (.tup [.int (i : Nat), x]) ∧ ∀ xs, SqT K H a xs → xs[i]? = some x, fun i H => ∃ xs : List V, SqT K H a xs ∧ xs.length ≤ i⟩
theorem turn_enumT {P : Program} {w : World} {K : PySem.W.Frag} {elts : List Expr} {kk : Nat} {tpos : Pos} (a e it : Addr) :
    Turn P w K (.Tuple elts kk tpos) (Itet K a) [e, it] e (fun i h => (∃ old, IsEnum h e it ((i : Nat) : Int) old) ∧ h.IsTupleIter it a i ∧ e ≠ it) where
  mem := by simp
  obj := fun i h st b hb => by
    obtain ⟨⟨old, he⟩, ⟨o, ho, hc, hd⟩, _⟩ := st
    have e' : b = e ∨ b = it := by simpa using hb
    rcases e' with z | z
    · rw [z]; exact ⟨_, he, fun v q => nomatch q⟩
    · rw [z]; exact ⟨o, ho, fun v q => by rw [hd] at q; cases q⟩
  keep := fun i h h' st k => let ⟨⟨old, he⟩, hi, hne⟩ := st; ⟨⟨old, k e (by simp) _ he⟩, hi.at fun o q => k it (by simp) o q, hne⟩
  item := by
    intro X hP hw hK hc i pins s σ H E I hf st hg
    subst hP hw hK
    obtain ⟨⟨old, he⟩, hit, hne⟩ := st
    obtain ⟨xs, x, hq, hx⟩ := hg
    obtain ⟨its, rv, p0, hz⟩ := I.tuple hq
    have p : s.heap.IsTuple a its.toArray := p0
    obtain ⟨u, hu, ru⟩ := rv.get hx
    have hel : e < s.heap.objs.size := Heap.lt_size he
    have hil : it < s.heap.objs.size := by obtain ⟨_, q, _⟩ := hit; exact Heap.lt_size q
    have hai : a ≠ it := fun z => by
      obtain ⟨o1, q1, c1, _⟩ := hit
      obtain ⟨o2, q2, c2, _⟩ := p
      rw [z, q1] at q2; cases q2
      rw [c1] at c2; exact absurd c2 (by decide)
    have hae : a ≠ e := fun z => by
      obtain ⟨o2, q2, c2, _⟩ := p
      rw [z, he] at q2; cases q2
      have c3 : Value.type "enumerate" = Value.type "tuple" := c2
      exact absurd c3 (by decide)
    have hn : X.A.in1.handled = none := (I.ok.hd hc)
    have Dd := Draws.tuple (prog := X.prog) (w := X.w) (A := X.A.in1) hn it a hai its.toArray
    have hlt : i < its.toArray.size := by
      have : i < its.length := (List.getElem?_eq_some_iff.mp hu).1
      simpa using this
    refine wpAny_pyNext_enum_itemC (c := (i : Int)) Dd he ⟨hit, p⟩ hlt hne (by simp only [List.mem_cons, List.not_mem_nil, or_false, not_or]; exact ⟨hne, Ne.symm hae⟩) fun y h' tk hy ho st' hT hsz hk => ?_
    have hy' : y = u := by
      have hy2 : its.toArray[i]? = some y := hy
      have : its.toArray[i]? = some u := by simpa using hu
      rw [this] at hy2; exact (Option.some.inj hy2).symm
    subst hy'
    refine ⟨_, rfl, wpAny_letOwnedTupleGo_enum (s := { s with heap := h', toks := tk + 1 }) ho fun h'' he' sb => ?_⟩
    have hT2 : h''.get? s.heap.objs.size = some { cls := .type "tuple", data := .seq #[.int i tk, y] } := (sb.2 _ (Nat.ne_of_gt hel)).trans hT
    have new : ObjOk X.prog X.w (upd H s.heap.objs.size (.tup [.int (i : Nat), x])) h'' s.heap.objs.size (.tup [.int (i : Nat), x]) :=
      ⟨by show 2 ≤ sizeLine; decide, [.int i tk, y], .cons ⟨_, rfl⟩ (.cons ru .nil), ⟨_, hT2, rfl, _, rfl⟩⟩
    have I1 : Inv X pins σ (upd H s.heap.objs.size (.tup [.int (i : Nat), x])) { s with heap := h'', toks := tk + 1 } :=
      I.turnedNew (ch := [e, it]) (fun b ob hb q => (sb.2 b (fun z => hb (by simp [z]))).trans (hk b ob (fun z => hb (by simp [z])) (fun z => hb (by simp [z])) q)) hf (Nat.le_refl _) new
    refine ⟨.ref s.heap.objs.size, _, I1, rfl, ⟨_, x, rfl, I.hok.fresh (Nat.le_refl _), rfl, fun ys hy => by rw [I.tuple_inj hy hq]; exact hx⟩, ⟨⟨y, ?_⟩, st'.1.at fun o q => (sb.2 it (Ne.symm hne)).trans q, hne⟩, fun b hb => ?_⟩
    · have e1 : ((i + 1 : Nat) : Int) = (i : Int) + 1 := by omega
      rw [e1]; exact he'
    · have hb' : b < s.heap.objs.size := by
        have e' : b = e ∨ b = it := by simpa using hb
        rcases e' with z | z
        · rw [z]; exact hel
        · rw [z]; exact hil
      rw [upd_ne (Nat.ne_of_lt hb')]
      exact (hf b hb).1
  done := by
    intro X hP hw hK hc i pins s σ H E I hf st hg
    subst hP hw hK
    obtain ⟨⟨old, he⟩, hit, hne⟩ := st
    obtain ⟨xs, hq, hx⟩ := hg
    obtain ⟨its, rv, p0, hz⟩ := I.tuple hq
    have p : s.heap.IsTuple a its.toArray := p0
    obtain ⟨f0, f1, f2, f3, f4, f5⟩ := hf it (by simp)
    have hl := rv.length
    have hai : a ≠ it := fun z => by
      obtain ⟨o1, q1, c1, _⟩ := hit
      obtain ⟨o2, q2, c2, _⟩ := p
      rw [z, q1] at q2; cases q2
      rw [c1] at c2; exact absurd c2 (by decide)
    have hn : X.A.in1.handled = none := (I.ok.hd hc)
    have ht : its.toArray[i]? = none := by
      rw [List.getElem?_toArray]
      exact List.getElem?_eq_none (by omega)
    -- a Draws of its own: nothing more is drawn from here
    have Dd : Draws X.prog X.w X.A.in1 it [it, a] i (fun _ _ => False) (fun j h => j = i ∧ h.IsTupleIter it a i ∧ h.IsTuple a its.toArray) :=
      { live := fun _ _ st => let ⟨o, ho, _⟩ := st.2.1; ⟨o, ho⟩
        frame := fun _ _ _ st hk => ⟨st.1, st.2.1.at fun o e => hk it (by simp) o e, st.2.2.at fun o e => hk a (by simp) o e⟩
        item := fun j s Q E hi st hQ => by exfalso; have := st.1; omega
        done := fun s Q E st hE => wpAny_nextOf_tuple_end hn st.2.1 st.2.2 ht hE }
    exact wpAny_pyNext_enum_endD (i := (i : Int)) Dd he ⟨rfl, hit, p⟩ fun h' eb => ⟨rfl, I.turned (t' := s.toks) (fun b o hb q => eb b o hb q) f0 f1 f3 f4 f5⟩
  self := fun A i s Q E st h => let ⟨⟨_, he⟩, _⟩ := st; wpAny_pyIter_enum he h
section
variable {X : Cx} {L : Lk} {W : WX} {P : Prog} {Φ : Call} {pos p : Pos} {tg e : Expr} {ea : E} {ρ : Rho} {H : Hp} {S : Store}
theorem jm_enumT (hK : X.K = L.K) {a : Addr} {xs : List D} {vs : List V} (hl : TupF L ρ H a vs) (r : RDs L ρ H xs vs) : JM L (Itet X.K a) ρ H (countUp 0 xs) := by
  intro ρ' S' H' x sr
  have sq : SqT X.K H' a vs := by rw [hK]; exact (hl.mono x).sq
  refine ⟨fun i y hy => ?_, fun i hi => ⟨vs, sq, by rw [← r.length, ← count_len xs 0]; exact hi⟩⟩
  obtain ⟨z, hz, rfl⟩ := count_get xs 0 i y hy
  obtain ⟨v, hv, rv⟩ := r.get hz
  refine ⟨⟨vs, v, sq, hv⟩, fun w H'' yl => ?_⟩
  obtain ⟨T, u, rfl, hT, rfl, q⟩ := yl
  have e := q vs sq
  rw [hv] at e
  cases e
  refine ⟨sr.ext_new hT, sr.new hT, upd_tup sr hT (.cons (by simp) (.cons (RD.mono x _ _ rv) .nil))⟩
def iEnumT (K : PySem.W.Frag) (ta : TA) : TI := fun σ H R => ta σ H fun vs H1 => ∃ a xs, vs = [.ref a] ∧ SqT K H1 a xs ∧ R (Itet K a) H1
theorem pi_enumT {a : Expr} {ta : TA} {tpos : Pos} {elts : List Expr} {kk : Nat} (hg : Gl X "enumerate") (hm : X.mg "enumerate" = none) (ha : PA X [a] ta) (hs : starEach [a] X.env = [(false, eval a X.env)]) :
    PI X (.Tuple elts kk tpos) (.Call (.Name "enumerate" p) [a] [] pos) (iEnumT X.K ta) := by
  refine ⟨fun pins s σ H R I h => ?_⟩
  refine Call_ (ld_blt I hg hm boot_enumerate (PyProof.Rows.callWith_type1 (thn (ha.run pos pins s σ H _ I h) fun us s1 ⟨vs, H1, I1, r1, q1⟩ => ?_) hs rfl))
  obtain ⟨a, xs, ex, hq, q⟩ := q1
  subst ex
  cases r1 with
  | cons r rr =>
    cases rr
    cases r
    obtain ⟨its, rv, p', hz⟩ := I1.tuple hq
    refine call_enum_tuple (show s1.heap.IsTuple a its.toArray from p') fun h' he hit hk => wpAny_pyIter_enum he ?_
    have I2 : Inv X pins σ H1 { s1 with heap := h' } := I1.kept (t' := s1.toks) hk
    refine ⟨s1.heap.objs.size + 1, [s1.heap.objs.size + 1, s1.heap.objs.size], _, _, H1, rfl, I2, turn_enumT a (s1.heap.objs.size + 1) s1.heap.objs.size, ⟨⟨.none, he⟩, hit, Nat.succ_ne_self _⟩, fun b hb => ?_, q⟩
    have e' : b = s1.heap.objs.size + 1 ∨ b = s1.heap.objs.size := by simpa using hb
    have hle : s1.heap.objs.size ≤ b := by
      rcases e' with z | z
      · rw [z]; exact Nat.le_add_right _ _
      · rw [z]; exact Nat.le_refl _
    exact I1.fpOk hle (I1.hok.fresh hle)
theorem pim_enumT {a : Expr} {es : List E} {elts : List Expr} {kk : Nat} {tpos : Pos} (hK : X.K = L.K) (hg : Gl X "enumerate") (hm : X.mg "enumerate" = none) (ha : PA X [a] (tA L W (evs P Φ es))) (hs : starEach [a] X.env = [(false, eval a X.env)]) : PI X (.Tuple elts kk tpos) (.Call (.Name "enumerate" p) [a] [] pos) (iM L W P Φ .enumT es) := by
  refine (pi_enumT hg hm ha hs).imp fun σ H R h => tM_mono _ _ _ _ (fun vs H1 q => ?_) h
  obtain ⟨ρ2, S2, ds, xs, s2, r2, e2, k⟩ := q
  rcases ds with _ | ⟨x, _ | ⟨y, t⟩⟩
  · simp [items] at e2
  · cases x with
    | tup ys =>
      simp only [items, Option.some.injEq] at e2
      subst e2
      obtain ⟨v, rfl, rv⟩ := r2.one
      simp only [RD] at rv
      obtain ⟨a1, ws, rfl, hl, rs⟩ := rv
      exact ⟨a1, ws, rfl, by rw [hK]; exact hl.sq, k _ (jm_enumT hK hl rs)⟩
    | _ => simp [items] at e2
  · cases x <;> simp [items] at e2
end
end Mi
set_option Elab.async false
set_option linter.all false
set_option maxHeartbeats 1000000
namespace Mi
open PySem PySem.Spec PyProof.Rows L2
/-- nothing is let out -/
abbrev W0 : WX := fun _ _ _ _ => False
section
variable {X : Cx} {L : Lk} {W : WX} {P : Prog} {Φ : Call} {pos p : Pos} {tg e : Expr} {ea : E} {ρ : Rho} {H : Hp} {S : Store} {σ : L2.St}
theorem takes0 {X : Cx} : Takes X W0 := fun u s' ⟨_, _, _, _, _, _, _, _, _, _, _, _, _, _, _, _, w⟩ => w.elim
theorem wipe_get (σ : L2.St) : ∀ (vs : List Nat) (j : Nat), (wipe σ vs)[j]? = if j ∈ vs then (if j < σ.length then some none else none) else σ[j]?
  | [], j => by simp [wipe]
  | v :: vs, j => by
    unfold wipe
    by_cases h : j = v
    · subst h
      rw [if_pos (List.mem_cons_self ..)]
      by_cases hl : j < σ.length
      · rw [if_pos hl, List.getElem?_set_self (by rw [wipe_length]; exact hl)]
      · rw [if_neg hl, List.getElem?_eq_none]
        rw [List.length_set, wipe_length]; omega
    · rw [List.getElem?_set_ne (Ne.symm h), wipe_get σ vs j]
      by_cases hm : j ∈ vs
      · rw [if_pos hm, if_pos (List.mem_cons_of_mem _ hm)]
      · rw [if_neg hm, if_neg]
        simp only [List.mem_cons, not_or]
        exact ⟨h, hm⟩
theorem wipe_only {σ0 σ' : L2.St} {ns vs : List Nat} (o : Only ns (wipe σ0 vs) σ') (h : ∀ j ∈ ns, j ∈ vs) : wipe σ' vs = wipe σ0 vs := by
  have hl : σ'.length = σ0.length := by rw [o.1, wipe_length]
  refine List.ext_getElem? fun j => ?_
  rw [wipe_get, wipe_get, hl]
  by_cases hj : j ∈ vs
  · rw [if_pos hj, if_pos hj]
  · rw [if_neg hj, if_neg hj, o.2 j fun k => hj (h j k), wipe_get, if_neg hj]
/-- what a turn gives -/
def ROp (L : Lk) : Rho → Hp → Option D → Option V → Prop := fun ρ H o v => match o, v with
  | none, none => True
  | some d, some v => RD L ρ H d v
  | _, _ => False
theorem calm_bind {α β γ δ : Type} {R : Rho → Hp → α → β → Prop} {R2 : Rho → Hp → γ → δ → Prop} {Q : δ → Hp → Prop} {σ' : L2.St} {m : M α} {g : α → M γ} (h : Post L W σ ρ H R2 Q ((calm m >>= g) S)) : Post L W0 σ' ρ H R (Then L W σ ρ H R R2 Q g) (m S) := by
  have h' : Post L W σ ρ H R2 Q (match calm m S with
    | .ok a S' => g a S'
    | .exc e S' => .exc e S'
    | .bad => .bad) := h
  unfold calm at h'
  cases q : m S with
  | ok a S1 =>
    rw [q] at h'
    exact fun ρ1 H1 b x s r => ⟨ρ1, S1, a, x, s, r, Post.ext x h'⟩
  | exc e S1 => rw [q] at h'; exact h'.elim
  | bad => rw [q] at h'; exact h'.elim
theorem ptsm_nil : PTs X [] (tT L W (evTests P Φ [])) := ⟨fun pins s σ H Q I ⟨ρ, S, η, sr, er, po⟩ => pts_nil.run pins s σ H Q I (by
  unfold evTests at po
  exact po ρ H true (.refl _ _) sr rfl)⟩
theorem ptsm_one {c : Expr} {ec : E} (h : PT X c (tT L W (evT P Φ ec))) : PTs X [c] (tT L W (evTests P Φ [ec])) := ⟨fun pins s σ H Q I ⟨ρ, S, η, sr, er, po⟩ => (pts_one h).run pins s σ H Q I (by
  have e : evTests P Φ [ec] η = (evT P Φ ec η >>= fun t => pure t) := by
    unfold evT
    rw [M.assoc]
    unfold evTests
    congr 1
    funext x
    congr 1
    funext t
    cases t <;> rfl
  rw [e] at po
  refine ⟨ρ, S, η, sr, er, (Post.bind (R := RB) po).imp fun k H1 ⟨ρ1, S1, d, x1, s1, r1, p1⟩ => ?_⟩
  cases r1
  exact p1 ρ1 H1 _ (.refl _ _) s1 rfl)⟩
/-- one more item -/
theorem push_ok {n : Nat} {D' : Addr} {d : D} {v : V} {g : Unit → M D} {Q : VK} (sr : SR L ρ S H) (hn : ρ[n]? = some (some D') ∨ ρ[n]? = some none) (r : RD L ρ H d v) (h : Post L W σ ρ H (RD L) Q ((push n d >>= g) S)) :
    ∃ acc, H D' = some (.lst acc) ∧ acc.length < sizeLine ∧ ∃ S', Ext ρ H ρ (upd H D' (.lst (acc ++ [v]))) ∧ SR L ρ S' (upd H D' (.lst (acc ++ [v]))) ∧ Post L W σ ρ (upd H D' (.lst (acc ++ [v]))) (RD L) Q (g () S') := by
  have h' : Post L W σ ρ H (RD L) Q (M.bind (push n d) g S) := h
  unfold M.bind push at h'
  cases q : S[n]? with
  | none => simp only [q] at h'; exact h'.elim
  | some c =>
    cases c with
    | list xs =>
      simp only [q] at h'
      by_cases hz : xs.length < line
      · simp only [if_pos hz] at h'
        rcases sr.cell n _ q with ⟨e, _⟩ | ⟨a, e1, vs, ha, rs⟩
        · cases e
        · rcases hn with hn | hn
          · rw [e1] at hn
            cases hn
            refine ⟨vs, ha, by rw [← rs.length]; exact hz, _, sr.ext_write e1, sr_list sr e1 (rs.append (.cons r .nil)), Post.ext (sr.ext_write e1) h'⟩
          · rw [e1] at hn; cases hn
      · simp only [if_neg hz] at h'; exact h'.elim
    | _ => simp only [q] at h'; exact h'.elim
theorem lcEnd_ok {n : Nat} {D' : Addr} {mu : Bool} {Q : VK} (sr : SR L ρ S H) (hn : ρ[n]? = some (some D') ∨ ρ[n]? = some none) (h : Post L W σ ρ H (RD L) Q (lcEnd mu n S)) : Q (.ref D') H := by
  have r : RD L ρ H (.ref n) (.ref D') := by
    simp only [RD]
    exact ⟨D', rfl, hn⟩
  unfold lcEnd at h
  cases mu with
  | true =>
    have h' : Post L W σ ρ H (RD L) Q (.ok (.ref n) S) := by
      rw [if_pos rfl] at h
      exact h
    exact h' ρ H _ (.refl _ _) sr r
  | false =>
    have h' : Post L W σ ρ H (RD L) Q (eff (freeze (.ref n)) S) := by
      rw [if_neg Bool.false_ne_true] at h
      exact h
    obtain ⟨d, S', e, k⟩ := Post.eff h'
    obtain ⟨ρ', x, s, r'⟩ := freeze_rd sr r e
    exact k ρ' H _ x s r'
theorem hn_of {ρ1 : Rho} {H1 : Hp} {n : Nat} {D' : Addr} (hl : ρ1.length = n) (x : Ext (ρ1 ++ [some D']) H1 ρ H) : ρ[n]? = some (some D') ∨ ρ[n]? = some none := by
  have e : (ρ1 ++ [some D'])[n]? = some (some D') := by rw [← hl]; simp
  rcases x.pre n (by rw [List.length_append, hl]; simp) with h | h
  · exact .inl (h.trans e)
  · exact .inr h
/-- what a comprehension's turn is in Mini -/
noncomputable def turnM (P : Prog) (Φ : Call) (η : Env) (own : List Nat) (tg : Tg) (cond : List E) (elt : E) (x : D) : M (Option D) := do
  let η' ← opt (asg tg x (wipeD η own))
  let t ← evTests P Φ cond η'
  if t then do
    let y ← ev P Φ elt η'
    pure (some y)
  else pure none
theorem lcLoop_cons (turn : D → M (Option D)) (n : Nat) (x : D) (xs : List D) : lcLoop turn n (x :: xs) = (calm (turn x) >>= fun r => match r with
    | none => lcLoop turn n xs
    | some y => push n y >>= fun _ => lcLoop turn n xs) := by
  rw [lcLoop]
  try congr 1
theorem evlc {mu : Bool} {own : List Nat} {k : ItK} {ia : List E} {tg' : Tg} {cond : List E} {elt : E} {η : Env} : ev P Φ (.lc mu own k ia tg' cond elt) η = (evs P Φ ia η >>= fun vs => opt (items k vs) >>= fun xs => alloc (.list []) >>= fun n => lcLoop (turnM P Φ η own tg' cond elt) n xs >>= fun _ => lcEnd mu n) := by
  conv => lhs; unfold ev
  rfl
theorem lc_of {mu : Bool} {own : List Nat} {k : ItK} {ia : List E} {tg' : Tg} {cond : List E} {elt : E} {H : Hp} {Q : VK} (hns : ∀ j ∈ tgNs tg', j ∈ own) (h : tE L W (ev P Φ (.lc mu own k ia tg' cond elt)) σ H Q) :
    tLc (iM L W P Φ k ia) (tG L tg') (tT L W0 (evTests P Φ cond)) (tE L W0 (ev P Φ elt)) own σ H Q := by
  obtain ⟨ρ, S, η, sr, er, po⟩ := h
  rw [evlc] at po
  refine first sr er po fun vs H1 ⟨ρ1, S1, ds, x1, s1, r1, p1⟩ => ?_
  obtain ⟨xs, q, p1a⟩ := Post.opt p1
  refine ⟨ρ1, S1, ds, xs, s1, r1, q, fun J hJ D' hD => ?_⟩
  have xa := s1.ext_alloc (o := .lst []) hD
  have sa : SR L (ρ1 ++ [some D']) (S1 ++ [.list []]) (upd H1 D' (.lst [])) := s1.alloc hD ⟨[], upd_same, RDs.nil⟩
  have pa : Post L W σ (ρ1 ++ [some D']) (upd H1 D' (.lst [])) (RD L) Q ((lcLoop (turnM P Φ η own tg' cond elt) S1.length xs >>= fun _ => lcEnd mu S1.length) (S1 ++ [.list []])) := Post.ext xa p1a
  refine ⟨fun i m H => m = xs.length - i ∧ i ≤ xs.length ∧ ∃ ρ S, Ext (ρ1 ++ [some D']) (upd H1 D' (.lst [])) ρ H ∧ SR L ρ S H ∧ Post L W σ ρ H (RD L) Q ((lcLoop (turnM P Φ η own tg' cond elt) S1.length (xs.drop i) >>= fun _ => lcEnd mu S1.length) S),
    ⟨xs.length, by simp, Nat.zero_le _, _, _, .refl _ _, sa, by simpa using pa⟩, ?_⟩
  rintro i m H ⟨rfl, hi, ρ, S, x2, s2, p2⟩
  obtain ⟨j1, j2⟩ := hJ ρ S H (xa.trans x2) s2
  by_cases hlt : i < xs.length
  · have hx : xs[i]? = some xs[i] := List.getElem?_eq_getElem hlt
    obtain ⟨g1, g2⟩ := j1 i _ hx
    rw [List.drop_eq_getElem_cons hlt, lcLoop_cons, M.assoc] at p2
    refine .inr ⟨g1, fun H' => i + 1 ≤ xs.length ∧ ∃ ρ S, Ext (ρ1 ++ [some D']) (upd H1 D' (.lst [])) ρ H' ∧ SR L ρ S H' ∧ Post L W σ ρ H' (RD L) Q ((lcLoop (turnM P Φ η own tg' cond elt) S1.length (xs.drop (i + 1)) >>= fun _ => lcEnd mu S1.length) S), fun H' h => ⟨xs.length - (i + 1), by omega, rfl, h.1, h.2⟩, fun v H' yl => ?_⟩
    obtain ⟨x3, s3, r3⟩ := g2 v H' yl
    have pt := calm_bind (R := ROp L) (σ' := σ) (Post.ext x3 p2)
    unfold turnM at pt
    obtain ⟨η', qa, pt1⟩ := Post.opt pt
    have erw : ER L ρ H' (wipeD η own) (wipe σ own) := ((((er.mono x1).mono xa).mono x2).mono x3).wipe own
    refine ⟨ρ, wipeD η own, xs[i], η', erw, r3, qa, fun σ' er' ol => ⟨wipe_only ol hns, ρ, S, η', s3, er', ?_⟩⟩
    refine (Post.bind (R := RB) pt1).imp fun t H3 ⟨ρ3, S3, t', x4, s4, rt, p3⟩ => ?_
    cases rt
    dsimp only at p3
    cases t with
    | true =>
      rw [if_pos rfl] at p3 ⊢
      refine ⟨ρ3, S3, η', s4, er'.mono x4, ?_⟩
      refine (Post.bind (R := RD L) p3).imp fun y H4 ⟨ρ4, S4, d, x5, s5, rd, p4⟩ => ?_
      obtain ⟨ρ5, S5, o, x6, s6, ro, p5⟩ := (show Post L W0 σ' ρ4 H4 (ROp L) _ (.ok (some d) S4) from p4) ρ4 H4 (some y) (.refl _ _) s5 rd
      cases o with
      | none => exact (show False from ro).elim
      | some d' =>
        replace p5 : Post L W σ ρ5 H4 (RD L) Q (((push S1.length d' >>= fun _ => lcLoop (turnM P Φ η own tg' cond elt) S1.length (xs.drop (i + 1))) >>= fun _ => lcEnd mu S1.length) S5) := p5
        rw [M.assoc] at p5
        have xx : Ext (ρ1 ++ [some D']) (upd H1 D' (.lst [])) ρ5 H4 := (x2.trans x3).trans x6
        obtain ⟨acc, h1, h2, S6, y1, y2, y3⟩ := push_ok s6 (hn_of s1.len xx) ro p5
        exact ⟨acc, h1, h2, hlt, ρ5, S6, xx.trans y1, y2, y3⟩
    | false =>
      rw [if_neg Bool.false_ne_true] at p3 ⊢
      obtain ⟨ρ5, S5, o, x6, s6, ro, p5⟩ := (show Post L W0 σ ρ3 H3 (ROp L) _ (.ok none S3) from p3) ρ3 H3 none (.refl _ _) s4 trivial
      cases o with
      | none => exact ⟨hlt, ρ5, S5, (x2.trans x3).trans x6, s6, p5⟩
      | some d' => exact (show False from ro).elim
  · have e : i = xs.length := by omega
    subst e
    rw [List.drop_length] at p2
    have p3 : Post L W σ ρ H (RD L) Q (lcEnd mu S1.length S) := p2
    exact .inl ⟨j2 _ (Nat.le_refl _), lcEnd_ok s2 (hn_of s1.len x2) p3⟩
/-- every context of a block of X -/
def BlkAll (X : Cx) (scope : Scope) (φ : Cx → Prop) : Prop := ∀ (s : Shared) (H : Hp) (C : Addr) (cl : List (Str × Addr)) (fp : List Addr), φ (X.blk s H scope (compEnvC scope cl C X.env) fp)
theorem pm_lc {mu : Bool} {elt tg iter : Expr} {ifs : List Expr} {scope : Scope} {own : List (Str × Nat)} {pos : Pos} {k : ItK} {ia : List E} {tg' : Tg} {cond : List E} {elt' : E} (hc : X.calm = true) (hN : X.N.Nodup) (hi : PI X tg iter (iM L W P Φ k ia)) (ok : BlkOk X.N X.env.scope scope own)
    (hg : BlkAll X scope fun Y => PG Y tg (tG L tg')) (ht : BlkAll X scope fun Y => PTs Y ifs (tT L W0 (evTests P Φ cond))) (he : BlkAll X scope fun Y => PE Y elt (tE L W0 (ev P Φ elt'))) (hs : ∀ x, foldedSetIterable iter X.env x = pure x) (hns : ∀ j ∈ tgNs tg', j ∈ own.map (·.2)) :
    PE X (.ListComp elt [⟨tg, iter, ifs, 0⟩] scope pos) (tE L W (ev P Φ (.lc mu (own.map (·.2)) k ia tg' cond elt'))) :=
  (pe_lc hc hN hi ok hg ht he hs).imp fun σ H Q h => lc_of hns h
theorem psm_setLc {mu : Bool} {i : Nat} {y : Str} {py : Pos} {elt tg iter : Expr} {ifs : List Expr} {scope : Scope} {own : List (Str × Nat)} {pos spos : Pos} {k : ItK} {ia : List E} {tg' : Tg} {cond : List E} {elt' : E} (hc : X.calm = true) (hN : X.N.Nodup) (hy : X.N[i]? = some y) (hyl : X.env.scope.names.lookup y = some .local)
    (hsw : swapsWith (.ListComp elt [⟨tg, iter, ifs, 0⟩] scope pos) (some (.Name y py)) spos.line X.env = pure true) (hi : PI X tg iter (iM L W P Φ k ia)) (ok : BlkOk X.N X.env.scope scope own)
    (hg : BlkAll X scope fun Y => PG Y tg (tG L tg')) (ht : BlkAll X scope fun Y => PTs Y ifs (tT L W0 (evTests P Φ cond))) (he : BlkAll X scope fun Y => PE Y elt (tE L W0 (ev P Φ elt'))) (hs : ∀ x, foldedSetIterable iter X.env x = pure x) (hns : ∀ j ∈ tgNs tg', j ∈ own.map (·.2)) :
    PS X (.Assign [.Name y py] (.ListComp elt [⟨tg, iter, ifs, 0⟩] scope pos) spos) (tS L W (ex P Φ (.set (.n i) (.lc mu (own.map (·.2)) k ia tg' cond elt')))) := by
  refine (ps_setLc hc hN hy hyl hsw hi ok hg ht he hs).imp fun D σ H ⟨ρ, S, η, sr, er, po⟩ => ?_
  refine lc_of (mu := mu) hns ?_
  unfold ex at po
  refine firstX sr er po fun z H1 ⟨ρ1, S1, d, x1, s1, r1, p1⟩ => ?_
  by_cases h : i < η.length
  · simp only [asg, if_pos h] at p1
    exact p1 ρ1 H1 _ (.refl _ _) s1 ((er.mono x1).set r1 i)
  · simp only [asg, if_neg h] at p1
    exact p1.elim
end
end Mi
set_option Elab.async false
set_option linter.all false
set_option maxHeartbeats 1000000
namespace Mi
open PySem PySem.Spec PyProof.Rows L2
section
variable {X : Cx} {L : Lk} {W : WX} {P : Prog} {Φ : Call} {fa : Nat → Addr} {pos p2 : Pos} {a b c : Expr} {ea eb ec : E} {ρ : Rho} {H : Hp} {S : Store}
theorem put_rd {κ : Type} [DecidableEq κ] {k : κ} {d : D} {v : V} (r : RD L ρ H d v) : ∀ {kvs : List (κ × D)} {vs : List V}, RDs L ρ H (kvs.map (·.2)) vs → (kvs.map (·.1)).Nodup →
    ∃ ws, putK ((kvs.map (·.1)).zip vs) k v = ((putL kvs k d).map (·.1)).zip ws ∧ RDs L ρ H ((putL kvs k d).map (·.2)) ws ∧ ((putL kvs k d).map (·.1)).Nodup := by
  intro kvs vs rs nd
  have lz : (kvs.map (·.1)).length = vs.length := by rw [← rs.length, List.length_map, List.length_map]
  have same : ∀ {kvs : List (κ × D)} {vs : List V}, RDs L ρ H (kvs.map (·.2)) vs → ((kvs.map (·.1)).zip vs).any (fun q => decide (q.1 = k)) = kvs.any fun q => decide (q.1 = k) := by
    intro kvs
    induction kvs with
    | nil => intro vs _; simp
    | cons q kvs ih =>
      intro vs rs
      simp only [List.map_cons, RDs] at rs
      obtain ⟨w, ws, rfl, _, rs⟩ := rs
      simp [ih rs]
  unfold putK putL
  rw [same rs]
  by_cases h : kvs.any (fun q => decide (q.1 = k)) = true
  · rw [if_pos h, if_pos h]
    have key : ∀ {kvs : List (κ × D)} {vs : List V}, RDs L ρ H (kvs.map (·.2)) vs → ∃ ws, ((kvs.map (·.1)).zip vs).map (fun q => if q.1 = k then (q.1, v) else q) = ((kvs.map fun q => if q.1 = k then (q.1, d) else q).map (·.1)).zip ws ∧ RDs L ρ H ((kvs.map fun q => if q.1 = k then (q.1, d) else q).map (·.2)) ws ∧ (kvs.map fun q => if q.1 = k then (q.1, d) else q).map (·.1) = kvs.map (·.1) := by
      intro kvs
      induction kvs with
      | nil =>
        intro vs rs
        simp only [List.map_nil, RDs] at rs
        subst rs
        exact ⟨[], by simp, by simpa using RDs.nil, rfl⟩
      | cons q kvs ih =>
        intro vs rs
        simp only [List.map_cons, RDs] at rs
        obtain ⟨w, ws, rfl, r1, rs⟩ := rs
        obtain ⟨us, h1, h2, h3⟩ := ih rs
        by_cases hq : q.1 = k
        · refine ⟨v :: us, ?_, ?_, ?_⟩
          · simp only [List.map_cons, List.zip_cons_cons, hq, if_true]
            rw [h1]
          · simp only [List.map_cons, hq, if_true]
            exact .cons r h2
          · simp only [List.map_cons, hq, if_true, h3]
        · refine ⟨w :: us, ?_, ?_, ?_⟩
          · simp only [List.map_cons, List.zip_cons_cons, hq, if_false]
            rw [h1]
          · simp only [List.map_cons, hq, if_false]
            exact .cons r1 h2
          · simp only [List.map_cons, hq, if_false, h3]
    obtain ⟨ws, h1, h2, h3⟩ := key rs
    exact ⟨ws, h1, h2, by rw [h3]; exact nd⟩
  · rw [if_neg h, if_neg h]
    refine ⟨vs ++ [v], ?_, ?_, ?_⟩
    · rw [List.map_append, List.map_cons, List.map_nil, List.zip_append lz]
      rfl
    · rw [List.map_append, List.map_cons, List.map_nil]
      exact rs.append (.cons r .nil)
    · rw [List.map_append, List.map_cons, List.map_nil]
      rw [List.nodup_append]
      refine ⟨nd, by simp, fun x hx y hy => ?_⟩
      simp only [List.mem_singleton] at hy
      subst hy
      rintro rfl
      obtain ⟨q, hq, e⟩ := List.mem_map.mp hx
      exact h (List.any_eq_true.mpr ⟨q, hq, by simp [e]⟩)
theorem putL_len {κ : Type} [DecidableEq κ] (kvs : List (κ × D)) (k : κ) (v : D) : True := trivial
def rSetM (L : Lk) : TSet := fun o i v H Q => ∃ ρ S a k d S', SR L ρ S H ∧ RD L ρ H a o ∧ RD L ρ H k i ∧ RD L ρ H d v ∧ setop a k d S = some (.none, S') ∧ ∀ ρ' H', Ext ρ H ρ' H' → SR L ρ' S' H' → Q H'
theorem set_m (hu : X.A.units + 1 < cLine) : PSet X (rSetM L) := by
  intro pins s σ H o i v ov iv u Q I ro ri rv h
  obtain ⟨ρ, S, a, k, d, S', sr, ra, rk, rd, e, kk⟩ := h
  cases a with
  | ref n =>
    unfold setop at e
    cases q : S[n]? with
    | none => simp [q] at e
    | some cc =>
      cases cc with
      | list xs =>
        cases k with
        | int j =>
          simp only [q] at e
          cases qj : ixN xs.length j with
          | none => simp [qj] at e
          | some m =>
            simp only [qj, Option.some.injEq, Prod.mk.injEq, true_and] at e
            subst e
            simp only [RD_int] at rk
            subst rk
            obtain ⟨a1, ws, rfl, hr, ha, rl⟩ := lsts_rd sr ra q
            exact set_list pins s σ H _ _ v ov iv u Q I ro ri rv ⟨a1, ws, j, m, rfl, rfl, ha, by rw [← rl.length]; exact qj, kk ρ _ (sr.ext_write hr) (sr_list sr hr (RDs.set rd m rl))⟩
        | _ => simp [q] at e
      | dK kvs =>
        simp only [q] at e
        cases qk : keyOf k with
        | none => simp [qk] at e
        | some k' =>
          simp only [qk] at e
          by_cases hz : kvs.length < line
          · simp only [if_pos hz, Option.some.injEq, Prod.mk.injEq, true_and] at e
            subst e
            obtain ⟨a1, rfl, hr, vs, ha, nd, rs⟩ := sr.at ra q (by simp)
            have ei := key_rd qk rk
            subst ei
            obtain ⟨ws, h1, h2, h3⟩ := put_rd (k := k') rd rs nd
            have lz : ((kvs.map (·.1)).zip vs).length < sizeLine := by
              rw [List.length_zip, List.length_map]
              exact Nat.lt_of_le_of_lt (Nat.min_le_left _ _) hz
            refine set_dict hu pins s σ H _ _ v ov iv u Q I ro ri rv ⟨a1, _, rfl, .inl ⟨_, k', ha, rfl, lz, rfl⟩, kk ρ _ (sr.ext_write hr) (sr.write hr ⟨ws, ?_, h3, h2.mono (sr.ext_write hr)⟩)⟩
            rw [h1]
            exact upd_same
          · simp [if_neg hz] at e
      | dT kvs =>
        cases k with
        | tup ks =>
          simp only [q] at e
          cases qk : keysOf ks with
          | none => simp [qk] at e
          | some k' =>
            simp only [qk] at e
            by_cases hz : kvs.length < line
            · simp only [if_pos hz, Option.some.injEq, Prod.mk.injEq, true_and] at e
              subst e
              obtain ⟨a1, rfl, hr, vs, ⟨ha, nd⟩, rs⟩ := sr.at ra q (by simp)
              simp only [RD] at rk
              obtain ⟨b, us, rfl, hb, rt⟩ := rk
              have ei := keys_rd qk rt
              subst ei
              obtain ⟨ws, h1, h2, h3⟩ := put_rd (k := k') rd rs nd
              have lz : ((kvs.map (·.1)).zip vs).length < sizeLine := by
                rw [List.length_zip, List.length_map]
                exact Nat.lt_of_le_of_lt (Nat.min_le_left _ _) hz
              refine set_dict hu pins s σ H _ _ v ov iv u Q I ro ri rv ⟨a1, _, rfl, .inr ⟨_, k', b, ha, rfl, hb.1, lz, rfl⟩, kk ρ _ (sr.ext_write hr) (sr.write hr ⟨ws, ⟨?_, h3⟩, h2.mono (sr.ext_write hr)⟩)⟩
              rw [h1]
              exact upd_same
            · simp [if_neg hz] at e
        | _ => simp [q] at e
      | _ => simp [q] at e
  | _ => simp [setop] at e
theorem Post.effX {D0 : Ends} {η : Env} {σ : L2.St} {f : Store → Option (D × Store)} {k : D → Store → XR} (er : ER L ρ H η σ) (h : PostX L W D0 ρ H (thenX (Mi.eff f) η S k)) : ∃ d S', f S = some (d, S') ∧ PostX L W D0 ρ H (k d S') := by
  unfold thenX Mi.eff at h
  cases q : f S with
  | none => rw [q] at h; exact h.elim
  | some z =>
    obtain ⟨d, S'⟩ := z
    rw [q] at h
    exact ⟨d, S', rfl, h⟩
theorem setop_none {a k d : D} {S S' : Store} {z : D} (h : setop a k d S = some (z, S')) : z = .none := by
  unfold setop at h
  cases a with
  | ref n =>
    simp only at h
    split at h
    · split at h
      · split at h
        · cases h; rfl
        · cases h
      · cases h
    · split at h
      · split at h
        · cases h; rfl
        · cases h
      · cases h
    · split at h
      · split at h
        · split at h
          · cases h; rfl
          · cases h
        · cases h
      · cases h
    · cases h
  | _ => cases h
/-- o[i] = v -/
theorem psm_seti (hu : X.A.units + 1 < cLine) (ha : PE X a (tE L W (ev P Φ ea))) (hb : PE X b (tE L W (ev P Φ eb))) (hc : PE X c (tE L W (ev P Φ ec))) (hs : swapsWith c (some (.Subscript a b p2)) pos.line X.env = pure false) :
    PS X (.Assign [.Subscript a b p2] c pos) (tS L W (ex P Φ (.seti ea eb ec))) := by
  refine ⟨fun pins s σ H D I ⟨ρ, S, η, sr, er, po⟩ => ?_⟩
  unfold ex at po
  refine wpAny_Assign_Subscript (thn (hc.run pins s σ H _ I (firstX sr er po fun x H1 t => t)) fun r s1 ⟨v, H1, I1, rv, ρ1, S1, d1, x1, sr1, r1, p1⟩ =>
    thn (ha.run pins s1 σ H1 _ I1 (firstX sr1 (er.mono x1) p1 fun x H1 t => t)) fun u s2 ⟨x, H2, I2, rx, ρ2, S2, d2, x2, sr2, r2, p2'⟩ =>
    thn (hb.run pins s2 σ H2 _ I2 (firstX sr2 ((er.mono x1).mono x2) p2' fun x H1 t => t)) fun iv s3 ⟨y, H3, I3, ry, ρ3, S3, d3, x3, sr3, r3, p3⟩ => ?_) hs
  have er3 := ((er.mono x1).mono x2).mono x3
  obtain ⟨z, S4, e4, p4⟩ := Post.effX er3 p3
  have ez := setop_none e4
  subst ez
  exact thn (set_m hu pins s3 σ H3 x y v u iv r _ I3 rx ry rv ⟨ρ3, S3, d2, d3, d1, S4, sr3, RD.mono x3 _ _ r2, r3, RD.mono x3 _ _ (RD.mono x2 _ _ r1), e4, fun ρ' H' xx ss => (show D.nx σ H' from p4 ρ' H' σ xx ss (er3.mono xx))⟩) fun _ s4 ⟨H4, I4, q4⟩ => ⟨σ, H4, I4, q4⟩
end
end Mi
set_option Elab.async false
set_option linter.all false
set_option maxHeartbeats 1000000
namespace Mi
open PySem PySem.Spec PyProof.Rows L2
section
variable {X : Cx} {L : Lk} {W : WX} {P : Prog} {Φ : Call} {fa : Nat → Addr} {pos p2 : Pos} {a b c : Expr} {ea eb ec : E} {ρ : Rho} {H : Hp} {S : Store}
theorem putF_zip {f : Str} {v : V} : ∀ {ns : List Str} {k : Nat} {vs : List V}, ns.Nodup → ns[k]? = some f → k ≤ vs.length → vs.length ≤ ns.length → putF f v (ns.zip vs) = ns.zip (if k < vs.length then vs.set k v else vs ++ [v])
  | [], k, vs, _, h, _, _ => by simp at h
  | n :: ns, 0, [], nd, h, _, _ => by
    simp at h
    subst h
    simp [putF]
  | n :: ns, 0, w :: vs, nd, h, _, _ => by
    simp at h
    subst h
    simp [putF]
  | n :: ns, k + 1, [], nd, h, hk, _ => by simp at hk
  | n :: ns, k + 1, w :: vs, nd, h, hk, hl => by
    have nd' := List.nodup_cons.mp nd
    have h' : ns[k]? = some f := by simpa using h
    have hne : n ≠ f := fun e => nd'.1 (by rw [e]; exact List.mem_of_getElem? h')
    have ih := putF_zip (v := v) nd'.2 h' (by simpa using hk) (by simpa using hl)
    simp only [List.zip_cons_cons, putF, hne, if_false, ih]
    by_cases q : k < vs.length
    · rw [if_pos q, if_pos (by simpa using q)]
      simp
    · rw [if_neg q, if_neg (by simpa using q)]
      simp
theorem setA_of {d v z : D} {f : Str} {S S' : Store} (h : setA P d f v S = some (z, S')) : ∃ n c fs k, d = .ref n ∧ S[n]? = some (.inst c fs) ∧ P.attr c f = some (.fld k) ∧ k ≤ fs.length ∧ z = .none ∧ S' = S.set n (.inst c (if k < fs.length then fs.set k v else fs ++ [v])) := by
  unfold setA at h
  cases d with
  | ref n =>
    cases q : S[n]? with
    | none => simp [q] at h
    | some cc =>
      cases cc with
      | inst c fs =>
        simp only [q] at h
        cases qa : P.attr c f with
        | none => simp [qa] at h
        | some ak =>
          cases ak with
          | fld k =>
            simp only [qa] at h
            by_cases h1 : k < fs.length
            · rw [if_pos h1] at h
              cases h
              exact ⟨n, c, fs, k, rfl, q, qa, Nat.le_of_lt h1, rfl, by rw [if_pos h1]⟩
            · rw [if_neg h1] at h
              by_cases h2 : k = fs.length
              · rw [if_pos h2] at h
                cases h
                exact ⟨n, c, fs, k, rfl, q, qa, by omega, rfl, by rw [if_neg h1]⟩
              · rw [if_neg h2] at h; cases h
          | _ => simp [qa] at h
      | _ => simp [q] at h
  | _ => simp at h
/-- o.f = v -/
theorem psm_seta {f : Str} (hK : X.K = L.K) (ok : ClsOk X.K L P fa) (ha : PE X a (tE L W (ev P Φ ea))) (hc : PE X c (tE L W (ev P Φ ec))) (hs : swapsWith c (some (.Attribute a f p2)) pos.line X.env = pure false) :
    PS X (.Assign [.Attribute a f p2] c pos) (tS L W (ex P Φ (.seta ea f ec))) := by
  refine (ps_fld ha hc hs).imp fun D σ H ⟨ρ, S, η, sr, er, po⟩ => ?_
  unfold ex at po
  refine firstX sr er po fun y H1 ⟨ρ1, S1, d1, x1, s1, r1, p1⟩ => ?_
  refine firstX s1 (er.mono x1) p1 fun x H2 ⟨ρ2, S2, d2, x2, s2, r2, p2⟩ => ?_
  obtain ⟨z, S3, e3, p3⟩ := Post.effX ((er.mono x1).mono x2) p2
  obtain ⟨n, c', fs, k, rfl, q, qa, hk, rfl, rfl⟩ := setA_of e3
  obtain ⟨a1, rfl, hr, dx, vs, h1, h2, rs⟩ := s2.at r2 q (by simp)
  obtain ⟨k1, k2, k3, k4, k5⟩ := ok.fld _ _ _ qa
  refine ⟨a1, L.ca c', dx, _, rfl, h1, k1, k2, ?_, ?_⟩
  · rw [List.length_zip]
    exact Nat.lt_of_le_of_lt (Nat.min_le_left _ _) (by omega)
  · have hl : fs.length = vs.length := rs.length
    rw [putF_zip k4 k3 (by omega) h2]
    have hkl : k < (L.fn c').length := (List.getElem?_eq_some_iff.mp k3).1
    refine p3 ρ2 _ σ (s2.ext_write hr) (s2.write hr ?_) (((er.mono x1).mono x2).mono (s2.ext_write hr))
    refine ⟨dx, _, upd_same, ?_, ?_⟩
    · by_cases q1 : k < vs.length
      · rw [if_pos q1, List.length_set]; exact h2
      · rw [if_neg q1, List.length_append, List.length_singleton]; omega
    · rw [hl]
      by_cases q1 : k < vs.length
      · rw [if_pos q1, if_pos q1]
        exact (RDs.set (RD.mono x2 _ _ r1) k rs).mono (s2.ext_write hr)
      · rw [if_neg q1, if_neg q1]
        exact (rs.append (.cons (RD.mono x2 _ _ r1) .nil)).mono (s2.ext_write hr)
theorem psm_par {i j : Nat} {x y : Str} {px py pt pos : Pos} {kt k2 pt2} {es : List E} (hc : X.calm = true) (hN : X.N.Nodup) (hi : X.N[i]? = some x) (hj : X.N[j]? = some y) (hij : i ≠ j)
    (hx : X.env.scope.names.lookup x = some .local) (hy : X.env.scope.names.lookup y = some .local) (ha : PA X [a, b] (tA L W (evs P Φ es)))
    (hw : swappedStores [.Tuple [.Name x px, .Name y py] kt pt] (.Tuple [a, b] k2 pt2) X.env = pure (some [x, y]))
    (hs : swapsWithSole [.Tuple [.Name x px, .Name y py] kt pt] (.Tuple [a, b] k2 pt2) pos.line X.env = pure false) :
    PS X (.Assign [.Tuple [.Name x px, .Name y py] kt pt] (.Tuple [a, b] k2 pt2) pos) (tS L W (ex P Φ (.par [i, j] es))) := by
  refine (ps_par hc hN hi hj hij hx hy ha hw hs).imp fun D σ H ⟨ρ, S, η, sr, er, po⟩ => ?_
  unfold ex at po
  refine firstX sr er po fun vs H1 ⟨ρ1, S1, ds, x1, s1, r1, p1⟩ => ?_
  cases q : asgs ([i, j].map .n) ds η with
  | none => simp only [q] at p1; exact p1.elim
  | some η1 =>
    simp only [q] at p1
    have l2 := asgs_len q
    rcases ds with _ | ⟨d1, _ | ⟨d2, _ | ⟨d3, t⟩⟩⟩
    · simp at l2
    · simp at l2
    · obtain ⟨v, w, rfl, ra, rb⟩ := r1.two
      refine ⟨v, w, rfl, p1 ρ1 H1 _ (.refl _ _) s1 ?_⟩
      simp only [List.map_cons, List.map_nil, asgs, asg, Option.bind_eq_some_iff] at q
      obtain ⟨η2, e2, η3, e3, e4⟩ := q
      by_cases h1 : i < η.length
      · rw [if_pos h1] at e2
        cases e2
        by_cases h2 : j < (η.set i (some d1)).length
        · rw [if_pos h2] at e3
          cases e3
          cases e4
          exact ((er.mono x1).set ra i).set rb j
        · rw [if_neg h2] at e3; cases e3
      · rw [if_neg h1] at e2; cases e2
    · simp at l2
theorem psm_par3 {i j l : Nat} {x y z : Str} {px py pz pt pos : Pos} {kt k2 pt2} {es : List E} (hc : X.calm = true) (hN : X.N.Nodup) (hi : X.N[i]? = some x) (hj : X.N[j]? = some y) (hl : X.N[l]? = some z) (hij : i ≠ j) (hil : i ≠ l) (hjl : j ≠ l)
    (hx : X.env.scope.names.lookup x = some .local) (hy : X.env.scope.names.lookup y = some .local) (hz : X.env.scope.names.lookup z = some .local) (ha : PA X [a, b, c] (tA L W (evs P Φ es)))
    (hw : swappedStores [.Tuple [.Name x px, .Name y py, .Name z pz] kt pt] (.Tuple [a, b, c] k2 pt2) X.env = pure (some [x, y, z]))
    (hs : swapsWithSole [.Tuple [.Name x px, .Name y py, .Name z pz] kt pt] (.Tuple [a, b, c] k2 pt2) pos.line X.env = pure false) :
    PS X (.Assign [.Tuple [.Name x px, .Name y py, .Name z pz] kt pt] (.Tuple [a, b, c] k2 pt2) pos) (tS L W (ex P Φ (.par [i, j, l] es))) := by
  refine (ps_par3 hc hN hi hj hl hij hil hjl hx hy hz ha hw hs).imp fun D σ H ⟨ρ, S, η, sr, er, po⟩ => ?_
  unfold ex at po
  refine firstX sr er po fun vs H1 ⟨ρ1, S1, ds, x1, s1, r1, p1⟩ => ?_
  cases q : asgs ([i, j, l].map .n) ds η with
  | none => simp only [q] at p1; exact p1.elim
  | some η1 =>
    simp only [q] at p1
    have l2 := asgs_len q
    rcases ds with _ | ⟨d1, _ | ⟨d2, _ | ⟨d3, _ | ⟨d4, t⟩⟩⟩⟩
    · simp at l2
    · simp at l2
    · simp at l2
    · simp only [RDs] at r1
      obtain ⟨u, us, rfl, ra, v, vs', rfl, rb, w, ws, rfl, rc, rfl⟩ := r1
      refine ⟨u, v, w, rfl, p1 ρ1 H1 _ (.refl _ _) s1 ?_⟩
      simp only [List.map_cons, List.map_nil, asgs, asg, Option.bind_eq_some_iff] at q
      obtain ⟨η2, e2, η3, e3, η4, e4, e5⟩ := q
      by_cases h1 : i < η.length
      · rw [if_pos h1] at e2
        cases e2
        by_cases h2 : j < (η.set i (some d1)).length
        · rw [if_pos h2] at e3
          cases e3
          by_cases h3 : l < ((η.set i (some d1)).set j (some d2)).length
          · rw [if_pos h3] at e4
            cases e4
            cases e5
            exact (((er.mono x1).set ra i).set rb j).set rc l
          · rw [if_neg h3] at e4; cases e4
        · rw [if_neg h2] at e3; cases e3
      · rw [if_neg h1] at e2; cases e2
    · simp at l2
def flatP : List (V × V) → List V
  | [] => []
  | (x, y) :: r => x :: y :: flatP r
/-- the pairs of a display -/
def PPm (X : Cx) (L : Lk) (W : WX) (P : Prog) (Φ : Call) (pos : Pos) (keys : List (Option Expr)) (values : List Expr) (es : List E) : Prop := ∃ trs, PPs X pos keys values trs ∧ ∀ σ H K, (tA L W (evs P Φ es) σ H fun vs H1 => ∃ ps, vs = flatP ps ∧ K ps H1) → tPairs trs σ H K
theorem ppm_nil : PPm X L W P Φ pos [] [] [] := ⟨[], pps_nil, fun σ H K ⟨ρ, S, η, sr, er, po⟩ => by
  unfold evs at po
  obtain ⟨ps, e, k⟩ := po ρ H [] (.refl _ _) sr .nil
  cases ps with
  | nil => exact k
  | cons q r => obtain ⟨_, _⟩ := q; simp [flatP] at e⟩
theorem ppm_cons {ks : List (Option Expr)} {vs : List Expr} {es : List E} (ha : PE X a (tE L W (ev P Φ ea))) (hb : PE X b (tE L W (ev P Φ eb))) (hr : PPm X L W P Φ pos ks vs es) (h1 : ∀ x, ea ≠ .st x) (h2 : ∀ x, eb ≠ .st x) : PPm X L W P Φ pos (some a :: ks) (b :: vs) (ea :: eb :: es) := by
  obtain ⟨trs, hp, hk⟩ := hr
  refine ⟨_, pps_cons ha hb hp, fun σ H K ⟨ρ, S, η, sr, er, po⟩ => ?_⟩
  have e1 : evs P Φ (ea :: eb :: es) η = (ev P Φ ea η >>= fun x => evs P Φ (eb :: es) η >>= fun ys => pure (x :: ys)) := by
    cases ea <;> first | (exact absurd rfl (h1 _)) | rfl
  have e2 : evs P Φ (eb :: es) η = (ev P Φ eb η >>= fun x => evs P Φ es η >>= fun ys => pure (x :: ys)) := by
    cases eb <;> first | (exact absurd rfl (h2 _)) | rfl
  rw [e1, e2] at po
  simp only [M.assoc] at po
  refine first sr er po fun x H1 ⟨ρ1, S1, d1, x1, s1, r1, p1⟩ => ?_
  refine first s1 (er.mono x1) p1 fun y H2 ⟨ρ2, S2, d2, x2, s2, r2, p2⟩ => ?_
  refine hk σ H2 _ ⟨ρ2, S2, η, s2, (er.mono x1).mono x2, (Post.bind p2).imp fun zs H3 ⟨ρ3, S3, ds, x3, s3, r3, p3⟩ => ?_⟩
  obtain ⟨ps, e, k⟩ := (show Post L W σ ρ3 H3 (RDs L) _ (.ok (d1 :: d2 :: ds) S3) from p3) ρ3 H3 (x :: y :: zs) (.refl _ _) s3 (.cons (RD.mono x3 _ _ (RD.mono x2 _ _ r1)) (.cons (RD.mono x3 _ _ r2) r3))
  cases ps with
  | nil => simp [flatP] at e
  | cons q r =>
    obtain ⟨q1, q2⟩ := q
    simp only [flatP, List.cons.injEq] at e
    obtain ⟨rfl, rfl, e⟩ := e
    exact ⟨r, e, k⟩
theorem pairs_rd : ∀ {ds : List D} {kvs : List (Key × D)} {vs : List V}, pairsGo ds = some kvs → RDs L ρ H ds vs → ∃ ws, RDs L ρ H (kvs.map (·.2)) ws ∧ vs = flatP ((((kvs.map (·.1)).zip ws)).map fun kv => (kV kv.1, kv.2)) ∧ ws.length = kvs.length
  | [], kvs, vs, e, r => by
    simp only [pairsGo, Option.some.injEq] at e
    subst e
    simp only [RDs] at r
    subst r
    exact ⟨[], by simpa using RDs.nil, by simp [flatP], rfl⟩
  | [_], kvs, vs, e, r => by simp [pairsGo] at e
  | k :: v :: t, kvs, vs, e, r => by
    simp only [RDs] at r
    obtain ⟨x, xs, rfl, r1, y, ys, rfl, r2, r3⟩ := r
    unfold pairsGo at e
    cases q1 : keyOf k with
    | none => simp [q1] at e
    | some k' =>
      cases q2 : pairsGo t with
      | none => simp [q1, q2] at e
      | some kvs' =>
        simp only [q1, q2, Option.some.injEq] at e
        subst e
        obtain ⟨ws, h1, h2, h3⟩ := pairs_rd q2 r3
        refine ⟨y :: ws, by simpa using RDs.cons r2 h1, ?_, by simp [h3]⟩
        have := key_rd q1 r1
        subst this
        simp [flatP, h2]
theorem zip_take' {κ α : Type} : ∀ (ks : List κ) (ws : List α), (ks.zip ws).map (·.1) = ks.take ws.length
  | [], _ => by simp
  | k :: ks, [] => by simp
  | k :: ks, w :: ws => by simp [zip_take' ks ws]
theorem merge_nodup : ∀ (more kvs : List (Key × V)), (kvs.map (·.1) ++ more.map (·.1)).Nodup → mergeK kvs more = kvs ++ more
  | [], kvs, _ => by simp [mergeK]
  | p :: r, kvs, nd => by
    have h1 : valV kvs p.1 = none := by
      have : p.1 ∉ kvs.map (·.1) := fun hm => by
        rw [List.nodup_append] at nd
        exact nd.2.2 _ hm p.1 (by simp) rfl
      clear nd
      induction kvs with
      | nil => rfl
      | cons q kvs ih =>
        simp only [List.map_cons, List.mem_cons, not_or] at this
        rw [valV_neg (fun e => this.1 e.symm)]
        exact ih this.2
    show mergeK (putK kvs p.1 p.2) r = _
    rw [putK_new p.2 h1, merge_nodup r _ (by simpa using nd)]
    simp
theorem flatP_inj : ∀ {ps qs : List (V × V)}, flatP ps = flatP qs → ps = qs
  | [], [], _ => rfl
  | [], (_, _) :: _, h => by simp [flatP] at h
  | (_, _) :: _, [], h => by simp [flatP] at h
  | (a, b) :: ps, (c, d) :: qs, h => by
    simp only [flatP, List.cons.injEq] at h
    obtain ⟨rfl, rfl, h⟩ := h
    rw [flatP_inj h]
theorem pm_disp {keys : List (Option Expr)} {values : List Expr} {es : List E} (h : PPm X L W P Φ pos keys values es) (hall : keys.all (·.isSome) = true) (hl : keys.length = values.length) (h0 : keys ≠ []) (h15 : keys.length ≤ 15) : PE X (.Dict keys values pos) (tE L W (ev P Φ (.mdict es))) := by
  obtain ⟨trs, hp, hk⟩ := h
  refine (pe_disp hp hall hl h0 h15).imp fun σ H Q ⟨ρ, S, η, sr, er, po⟩ p hpn => ?_
  unfold ev at po
  have xa := sr.ext_alloc (o := .dK []) hpn
  have sa : SR L (ρ ++ [some p]) (S ++ [.dK []]) (upd H p (.dK [])) := sr.alloc hpn ⟨[], by simpa using upd_same, by simp, by simpa using RDs.nil⟩
  have pa : Post L W σ (ρ ++ [some p]) (upd H p (.dK [])) (RD L) Q ((evs P Φ es η >>= fun vs => opt (pairsOf vs) >>= fun kvs => fill S.length kvs >>= fun _ => pure (.ref S.length)) (S ++ [.dK []])) := Post.ext xa po
  refine hk σ _ _ ⟨_, _, η, sa, er.mono xa, (Post.bind pa).imp fun vs H1 ⟨ρ1, S1, ds, x1, s1, r1, p1⟩ => ?_⟩
  obtain ⟨kvs, q, p1a⟩ := Post.opt p1
  have p1b : Post L W σ ρ1 H1 (RD L) Q (M.bind (fill S.length kvs) (fun _ => pure (.ref S.length)) S1) := p1a
  unfold M.bind fill at p1b
  unfold pairsOf at q
  cases q0 : pairsGo ds with
  | none => simp [q0] at q
  | some kvs' =>
    simp only [q0] at q
    by_cases hz : (kvs'.map (·.1)).Nodup ∧ kvs'.length ≤ 15
    · rw [if_pos hz] at q
      cases q
      obtain ⟨ws, h1, h2, h3⟩ := pairs_rd q0 r1
      subst h2
      cases qs : S1[S.length]? with
      | none => simp only [qs] at p1b; exact p1b.elim
      | some cc =>
        have hn := hn_of (ρ := ρ1) (H := H1) sr.len x1
        have hp1 : ∀ cc', S1[S.length]? = some cc' → cc' ≠ .dead → ρ1[S.length]? = some (some p) ∧ CR L ρ1 H1 cc' p := by
          intro cc' e1 e2
          rcases s1.cell _ _ e1 with ⟨e, _⟩ | ⟨a1, e3, cr⟩
          · exact absurd e e2
          · rcases hn with hn | hn
            · rw [e3] at hn; cases hn; exact ⟨e3, cr⟩
            · rw [e3] at hn; cases hn
        cases cc with
        | dK old =>
          cases old with
          | nil =>
            simp only [qs] at p1b
            obtain ⟨e3, vs', hH, _, rv⟩ := hp1 _ qs (by simp)
            simp only [List.map_nil, List.zip_nil_left] at hH
            refine ⟨_, rfl, hH, (kvs.map (·.1)).zip ws, rfl, ?_, ?_⟩
            · rw [List.length_zip, List.length_map]; omega
            · have em : mergeK [] ((kvs.map (·.1)).zip ws) = (kvs.map (·.1)).zip ws := by
                rw [merge_nodup]
                · simp
                · simp only [List.map_nil, List.nil_append]
                  rw [zip_take', h3, ← List.length_map (f := (·.1)), List.take_length]
                  exact hz.1
              rw [em]
              refine p1b ρ1 _ (.ref p) (s1.ext_write e3) (s1.write e3 ⟨ws, upd_same, hz.1, h1.mono (s1.ext_write e3)⟩) ?_
              simp only [RD]
              exact ⟨p, rfl, .inl e3⟩
          | cons _ _ => simp only [qs] at p1b; exact p1b.elim
        | _ => simp only [qs] at p1b; exact p1b.elim
    · rw [if_neg hz] at q; cases q
/-- {} -/
theorem pm_edict : PE X (.Dict [] [] pos) (tE L W (ev P Φ .edict)) := by
  refine pe_dnewK.imp fun σ H Q ⟨ρ, S, η, sr, er, po⟩ p hpn => ?_
  unfold ev at po
  refine po ρ _ (.ref p) (sr.ext_new hpn) (sr.new hpn) ?_
  simp only [RD, RDs]
  exact ⟨p, [], rfl, ⟨.inl (by simpa using upd_same), List.nodup_nil, sr.notlive hpn, rfl⟩, rfl⟩
theorem pm_disp0 : PE X (.Dict [] [] pos) (tE L W (ev P Φ (.mdict []))) := by
  refine pe_dnewK.imp fun σ H Q ⟨ρ, S, η, sr, er, po⟩ p hpn => ?_
  unfold ev at po
  have po' : Post L W σ ρ H (RD L) Q (M.bind (fill S.length []) (fun _ => pure (.ref S.length)) (S ++ [.dK []])) := by
    unfold evs at po
    exact po
  unfold M.bind fill at po'
  have e : (S ++ [Cell.dK []])[S.length]? = some (.dK []) := by simp
  simp only [e] at po'
  have e2 : (S ++ [Cell.dK []]).set S.length (.dK []) = S ++ [.dK []] := by
    rw [List.set_append_right _ _ (Nat.le_refl _)]
    simp
  rw [e2] at po'
  refine po' _ _ (.ref p) (sr.ext_alloc hpn) (sr.alloc hpn ⟨[], by simpa using upd_same, by simp, by simpa using RDs.nil⟩) ?_
  simp only [RD]
  exact ⟨p, rfl, .inl (by rw [← sr.len]; simp)⟩
end
end Mi
set_option Elab.async false
set_option linter.all false
set_option maxHeartbeats 1000000
namespace Mi
open PySem PySem.Spec PyProof.Rows L2
section
variable {X : Cx} {L : Lk} {W : WX} {P : Prog} {Φ : Call} {fa : Nat → Addr} {pos p p2 : Pos} {a b c : Expr} {ea eb ec : E} {ρ : Rho} {H : Hp} {S : Store}
theorem kitB_sub : ∀ t ∈ kinds, ∀ n ∈ kinds, kitB t n = some (subB t n) := by decide +kernel
theorem kind_mem {d : D} {t : String} (h : kindOf S d = some t) : t ∈ kinds := by
  unfold kindOf at h
  split at h <;> first | (cases h; simp [kinds]; done) | skip
  · unfold dictK at h
    split at h <;> first | (cases h; simp [kinds]; done) | (cases h; done)
  · split at h <;> first | (cases h; simp [kinds]; done) | (cases h; done)
  · cases h
theorem lstF_ty (hK : X.K = L.K) {a : Addr} {vs : List V} (h : LstF L ρ H a vs) : TyX X.K H (.ref a) (.type "list") := by
  rcases h with ⟨h | ⟨o, h⟩, _⟩ | ⟨its, n, h, _, _⟩
  · exact .base (.lst h)
  · exact .base (.frz h)
  · exact .kList (by rw [hK]; exact h) rfl
theorem kind_ty (hK : X.K = L.K) (sr : SR L ρ S H) {d : D} {v : V} {t : String} (r : RD L ρ H d v) (h : kindOf S d = some t) : TyX X.K H v (.type t) := by
  cases d with
  | none => simp only [kindOf, Option.some.injEq] at h; subst h; simp only [RD_none] at r; subst r; exact .base .non
  | bool x => simp only [kindOf, Option.some.injEq] at h; subst h; simp only [RD_bool] at r; subst r; exact .base (.bl x)
  | int x => simp only [kindOf, Option.some.injEq] at h; subst h; simp only [RD_int] at r; subst r; exact .base (.int x)
  | str x => simp only [kindOf, Option.some.injEq] at h; subst h; simp only [RD_str] at r; subst r; exact .base (.str x)
  | tup xs =>
    simp only [kindOf, Option.some.injEq] at h
    subst h
    simp only [RD] at r
    obtain ⟨a, vs, rfl, ht, _⟩ := r
    exact .base (.tup ht.1)
  | list xs =>
    simp only [kindOf, Option.some.injEq] at h
    subst h
    simp only [RD] at r
    obtain ⟨a, vs, rfl, ht, _⟩ := r
    exact lstF_ty hK ht
  | dict ks xs =>
    cases ks with
    | nil =>
      simp only [kindOf, dictK, Option.some.injEq] at h
      subst h
      simp only [RD] at r
      obtain ⟨a, vs, rfl, ⟨ht, _⟩, _⟩ := r
      rcases ht with ht | ⟨hk, _⟩
      · exact .base (.dK ht)
      · exact absurd rfl hk
    | cons k ks => simp [kindOf, dictK] at h
  | ref n =>
    unfold kindOf at h
    cases q : S[n]? with
    | none => simp [q] at h
    | some cc =>
      cases cc with
      | list xs =>
        simp only [q, Option.some.injEq] at h
        subst h
        obtain ⟨a, rfl, _, vs, ha, _⟩ := sr.at r q (by simp)
        exact .base (.lst ha)
      | dK kvs =>
        simp only [q, Option.some.injEq] at h
        subst h
        obtain ⟨a, rfl, _, vs, ha, _⟩ := sr.at r q (by simp)
        exact .base (.dK ha)
      | dT kvs =>
        simp only [q, Option.some.injEq] at h
        subst h
        obtain ⟨a, rfl, _, vs, ⟨ha, _⟩, _⟩ := sr.at r q (by simp)
        exact .base (.dT ha)
      | _ => simp [q] at h
  | _ => simp [kindOf] at h
/-- isinstance(x, T), T a built-in type -/
theorem pm_isi1 {n : String} (hK : X.K = L.K) (hg : Gl X "isinstance") (hm : X.mg "isinstance" = none) (ha : PE X a (tE L W (ev P Φ ea))) (hb : PE X b (tC (.ty n))) (he : starEach [a, b] X.env = (false, eval a X.env) :: starEach [b] X.env) (he2 : starEach [b] X.env = (false, eval b X.env) :: starEach [] X.env)
    (hpl : (backTo pos (starEach [b] X.env)).any (·.1) = false) : PE X (.Call (.Name "isinstance" p) [a, b] [] pos) (tE L W (ev P Φ (.isi ea [.b n]))) := by
  refine (pe_callB call_isi hg hm (by rfl) (pa_cons ha (pa_cons hb pa_nil he2) he) (by decide) (by decide) he hpl).imp fun σ H Q ⟨ρ, S, η, sr, er, po⟩ => ?_
  unfold ev at po
  refine first sr er po fun x H1 ⟨ρ1, S1, d, x1, s1, r1, p1⟩ => ?_
  obtain ⟨z, e, k⟩ := Post.pur p1
  simp only [Option.map_eq_some_iff, isTys, isTy] at e
  obtain ⟨w, e, rfl⟩ := e
  by_cases hn : n ∈ kinds
  · rw [if_pos hn] at e
    cases q : kindOf S1 d with
    | none => simp [q] at e
    | some t =>
      have ew : w = subB t n := by
        simp only [q, Option.map_some] at e
        cases q2 : subB t n <;> simp [q2] at e <;> exact e
      subst ew
      exact ⟨x, .ty n, .type t, .type n, subB t n, rfl, .ty n, kind_ty hK s1 r1 q, kit_ty (kitB_sub t (kind_mem q) n hn), k ρ1 H1 _ (.refl _ _) s1 (by simp)⟩
  · rw [if_neg hn] at e
    simp at e
end
end Mi
set_option Elab.async false
set_option linter.all false
set_option maxHeartbeats 1000000
namespace Mi
open PySem PySem.Spec PyProof.Rows L2
/-- a suite's wish about what leaves the def -/
abbrev WE0 (E : XK) : WX := fun c d _ H => E c d H
/-- where a def's body is run -/
abbrev fcx (prog : Program) (w : World) (K : PySem.W.Frag) (mg : Str → Option Value) (base : Heap) (N : List Str) (qual : Str) (scope : Scope) (f : Addr) (cd : Value) (A : Around) (outer : List PySem.Env) (s : Shared) (H : Hp) (E : XK) : Cx :=
  cxOf (L2.CX prog w) prog w K mg base N qual scope f cd A outer s H E
/-- constants that stand for their values whatever the heap -/
def Dfl (L : Lk) (dV : Value) (dfl : List D) : Prop := (dV = .none ∧ dfl = []) ∨ ∃ (T : Addr) (o : Obj) (its : List Value) (n : Nat), dV = .ref T ∧ L.K.lookup T = some o ∧ o.data = .seq its.toArray n ∧ ∀ ρ H, EIs (Stands L ρ H) its dfl
/-- what is true of a def that Mini has as fn -/
structure FnAt (prog : Program) (w : World) (mg : Str → Option Value) (base : Heap) (L : Lk) (P : Prog) (fa : Nat → Addr) (f : Nat) (fn : Fn) : Prop where
  ex : ∃ (oc : Value) (od : Option Addr) (name qual : Str) (params : Arguments) (body : List Stmt) (scope : Scope) (dV kV doc pm : Value) (an : Option Addr) (cdv ct : Value) (osl : Array (Option Value)) (N : List Str) (pv : Option Str),
    L.K.lookup (fa f) = some ⟨oc, od, .func (PySem.W.fnOf name qual params body scope dV kV doc pm an cdv ct), osl⟩ ∧ PySem.W.codeIn L.K cdv qual = true ∧ FnScope N (fn.ps ++ pv.toList) scope ∧ (fn.star = pv.isSome) ∧
    PlainD (PySem.W.fnOf name qual params body scope dV kV doc pm an cdv ct) fn.ps pv ∧ fn.ps.Nodup ∧ N.length = fn.n ∧ Dfl L dV fn.dfl ∧
    ∀ (Φ : Call) (n : Nat) (A : Around) (outer : List PySem.Env) (s : Shared) (H : Hp) (E : XK), FnM prog w mg base L P fa Φ n → RoomM (2 * n + 1) (A.deeper (envOfC qual scope s.heap.objs.size (fa f) cdv)) →
      PSs (fcx prog w L.K mg base N qual scope (fa f) cdv A outer s H E) body (tS L (WE0 E) (exs P Φ fn.body))
section
variable {prog : Program} {w : World} {mg : Str → Option Value} {base : Heap} {L : Lk} {P : Prog} {fa : Nat → Addr}
theorem fill_rel {α β : Type} {R : α → β → Prop} {ks : List Str} {zs : List α} {ws : List β} (hz : EIs R zs ws) : ∀ {l : List (Str × Option α)} {m : List (Str × Option β)}, EIs (fun p q => p.1 = q.1 ∧ (match p.2, q.2 with
    | none, none => True
    | some a, some b => R a b
    | _, _ => False)) l m → ∀ {r : List β}, fillB ks ws m = some r → ∃ r', fillB ks zs l = some r' ∧ EIs R r' r
  | _, _, .nil, r, h => by
    simp only [fillB, Option.some.injEq] at h
    subst h
    exact ⟨[], rfl, .nil⟩
  | _, _, .cons (a := p) (b := q) ⟨h1, h2⟩ t, r, h => by
    obtain ⟨p1, p2⟩ := p
    obtain ⟨q1, q2⟩ := q
    simp only at h1 h2
    subst h1
    have lk : ∀ {ks : List Str} {zs : List α} {ws : List β}, EIs R zs ws → (match (ks.zip zs).lookup p1, (ks.zip ws).lookup p1 with
        | none, none => True
        | some a, some b => R a b
        | _, _ => False) := by
      intro ks
      induction ks with
      | nil => intro zs ws _; simp
      | cons k ks ih =>
        intro zs ws hz
        cases hz with
        | nil => simp
        | cons hr ht =>
          simp only [List.zip_cons_cons, List.lookup]
          cases hk : p1 == k with
          | true => exact hr
          | false => exact ih ht
    unfold fillB at h ⊢
    have l1 := lk (ks := ks) hz
    cases e1 : (ks.zip zs).lookup p1 with
    | none =>
      cases e2 : (ks.zip ws).lookup p1 with
      | some b => rw [e1, e2] at l1; exact l1.elim
      | none =>
        rw [e2] at h
        simp only [Option.none_or] at h ⊢
        cases q2 with
        | none => simp at h
        | some b =>
          cases p2 with
          | none => exact h2.elim
          | some a =>
            cases e3 : fillB ks ws _ with
            | none => rw [e3] at h; simp at h
            | some r2 =>
              rw [e3] at h
              simp only [Option.some.injEq] at h
              subst h
              obtain ⟨r', f1, f2⟩ := fill_rel hz t e3
              exact ⟨a :: r', by rw [f1], .cons h2 f2⟩
    | some a =>
      cases e2 : (ks.zip ws).lookup p1 with
      | none => rw [e1, e2] at l1; exact l1.elim
      | some b =>
        rw [e1, e2] at l1
        rw [e2] at h
        simp only [Option.some_or] at h ⊢
        cases e3 : fillB ks ws _ with
        | none => rw [e3] at h; simp at h
        | some r2 =>
          rw [e3] at h
          simp only [Option.some.injEq] at h
          subst h
          obtain ⟨r', f1, f2⟩ := fill_rel hz t e3
          exact ⟨a :: r', by rw [f1], .cons l1 f2⟩
theorem eis_append {α β : Type} {R : α → β → Prop} : ∀ {a : List α} {b : List β} {c : List α} {d : List β}, EIs R a b → EIs R c d → EIs R (a ++ c) (b ++ d)
  | _, _, _, _, .nil, h => h
  | _, _, _, _, .cons x t, h => .cons x (eis_append t h)
theorem eis_drop {α β : Type} {R : α → β → Prop} : ∀ {a : List α} {b : List β} (n : Nat), EIs R a b → EIs R (a.drop n) (b.drop n)
  | _, _, 0, h => h
  | _, _, n + 1, .nil => .nil
  | _, _, n + 1, .cons x t => eis_drop n t
theorem eis_take {α β : Type} {R : α → β → Prop} : ∀ {a : List α} {b : List β} (n : Nat), EIs R a b → EIs R (a.take n) (b.take n)
  | _, _, 0, h => .nil
  | _, _, n + 1, .nil => .nil
  | _, _, n + 1, .cons x t => .cons x (eis_take n t)
theorem dfl_rel {α β : Type} {R : α → β → Prop} {ps : List Str} {a : List α} {b : List β} (h : EIs R a b) : EIs (fun (p : Str × Option α) (q : Str × Option β) => p.1 = q.1 ∧ (match p.2, q.2 with
    | none, none => True
    | some a, some b => R a b
    | _, _ => False)) (withDfl ps a) (withDfl ps b) := by
  unfold withDfl
  rw [h.length]
  have key : ∀ {xs : List (Option α)} {ys : List (Option β)}, EIs (fun p q => match p, q with
      | none, none => True
      | some a, some b => R a b
      | _, _ => False) xs ys → ∀ ps : List Str, EIs (fun (p : Str × Option α) (q : Str × Option β) => p.1 = q.1 ∧ (match p.2, q.2 with
    | none, none => True
    | some a, some b => R a b
    | _, _ => False)) (ps.zip xs) (ps.zip ys) := by
    intro xs ys hx ps
    induction hx generalizing ps with
    | nil => cases ps <;> exact .nil
    | cons x t ih =>
      cases ps with
      | nil => exact .nil
      | cons p ps => exact .cons ⟨rfl, x⟩ (ih ps)
  refine key ?_ ps
  refine eis_append ?_ ?_
  · induction ps.length - b.length with
    | zero => exact .nil
    | succ n ih => rw [List.replicate_succ, List.replicate_succ]; exact .cons trivial ih
  · induction h with
    | nil => exact .nil
    | cons x t ih => exact .cons x ih
theorem runF_post {Φ : Call} {fn : Fn} {ds : List D} {ρ : Rho} {H : Hp} {S : Store} {Q : VK} {E : XK} (h : Post L (fun c d _ H => E c d H) [] ρ H (RD L) Q (runF P Φ fn ds S)) :
    PostX L (WE0 E) { nx := fun _ H' => Q .non H', rt := Q } ρ H (exs P Φ fn.body (ds.map some ++ List.replicate (fn.n - ds.length) none) S) := by
  unfold runF at h
  cases q : exs P Φ fn.body (ds.map some ++ List.replicate (fn.n - ds.length) none) S with
  | bad => rw [q] at h; exact h
  | exc e η S' =>
    rw [q] at h
    exact fun ρ' H' σ' cls dx x s _ r => h ρ' H' cls dx x s r
  | fin f η S' =>
    rw [q] at h
    cases f with
    | next => exact fun ρ' H' σ' x s _ => h ρ' H' .non x s (by simp)
    | ret d => exact fun ρ' H' σ' x s _ v r => h ρ' H' v x s r
    | brk => exact h.elim
    | cont => exact h.elim
/-- the defaults are read -/
theorem dfl_read {M : Model} {A : Around} {E : Value → Shared → Prop} {s : Shared} {dV : Value} {dfl : List D} (hK : L.K.In s.heap) (h : Dfl L dV dfl) : ∃ its : List Value, (∀ ρ H, EIs (Stands L ρ H) its dfl) ∧ its.length = dfl.length ∧
    ∀ (Q' : Option (Array Value) → Shared → Prop), (∀ o, (o.getD #[]).toList = its → Q' o s) → wpAny M A (seqItems? dV) Q' E s := by
  rcases h with ⟨rfl, rfl⟩ | ⟨T, o, its, n, rfl, h1, h2, h3⟩
  · exact ⟨[], fun _ _ => .nil, rfl, fun Q' h => wpAny_pure (h none rfl)⟩
  · exact ⟨its, h3, (h3 [] (fun _ => none)).length, fun Q' h => wpAny_seqItems (hK _ _ h1) h2 (h _ (by simp))⟩
theorem fnM_zero {Φ : Call} (hΦ : Φ = run P 0) : FnM prog w mg base L P fa Φ 0 := by
  intro f A outer s H us ws ks ds es ρ S Q E hr e0 r1 r2 sr po
  subst hΦ
  exfalso
  unfold callM at po
  cases q : P.fn f with
  | none => simp only [q] at po; exact po
  | some fn =>
    simp only [q] at po
    cases q2 : bindF fn ds ks es with
    | none => simp only [q2] at po; exact po
    | some rs => simp only [q2, run_zero] at po; exact po
/-- THE FUNCTIONS: one level more -/
theorem fnM_succ {n : Nat} (hf : ∀ f fn, P.fn f = some fn → FnAt prog w mg base L P fa f fn) (ih : FnM prog w mg base L P fa (run P n) n) : FnM prog w mg base L P fa (run P (n + 1)) (n + 1) := by
  intro f A outer s H us ws ks ds es ρ S Q E hr e0 r1 r2 sr po
  unfold callM at po
  cases q : P.fn f with
  | none => simp only [q] at po; exact po.elim
  | some fn =>
    simp only [q] at po
    cases q2 : bindF fn ds ks es with
    | none => simp only [q2] at po; exact po.elim
    | some rs =>
      simp only [q2] at po
      have po' : Post L (fun c d _ H => E c d H) [] ρ H (RD L) Q (runF P (run P n) fn rs S) := by
        rw [run_succ] at po
        simp only [q] at po
        exact po
      have px := runF_post po'
      obtain ⟨oc, od, name, qual, params, body, scope, dV, kV, doc, pm, an, cdv, ct, osl, N, pv, lk, hcd, Sc, hst, hpl, nd, hN, hdfl, hb⟩ := (hf f fn q).ex
      have hr' : RoomM (2 * n + 1 + 1) A := hr
      have KX : L.K.In s.heap := e0.mod.kin.keeps fun b o e => (e0.bs b o e).1
      have rm : Room (2 * n + 1 + 1) A := hr'.room
      refine StX.run_bnd (k := 2 * n + 1) (ps := fn.ps ++ pv.toList) (G := fun vs H2 => ∃ ρ' : Rho, RDs L ρ' H2 rs vs ∧ Ext ρ H ρ' H2 ∧ SR L ρ' S H2) lk hcd Sc rm e0 ?_ ?_
      · intro A' Ex Q' hQ
        obtain ⟨its, hi1, hi2, hi3⟩ := dfl_read (M := model prog w) (A := A') (E := Ex) KX hdfl
        unfold bindF at q2
        cases hs : fn.star with
        | false =>
          rw [hs] at q2 hst
          simp only [Bool.false_eq_true, if_false] at q2
          have hpv : pv = none := by cases pv with
            | none => rfl
            | some z => simp at hst
          subst hpv
          simp only [Option.toList, List.append_nil] at hQ hpl ⊢
          by_cases hz : ds.length ≤ fn.ps.length ∧ ks.length = es.length ∧ fn.dfl.length ≤ fn.ps.length ∧ fn.ps.Nodup ∧ ks.Nodup ∧ ∀ k ∈ ks, k ∈ fn.ps.drop ds.length
          · rw [if_pos hz] at q2
            obtain ⟨z1, z2, z3, z4, z5, z6⟩ := hz
            obtain ⟨rest, e1, rfl⟩ := Option.map_eq_some_iff.mp q2
            have l1 : us.length = ds.length := r1.length
            have l2 : ws.length = es.length := r2.length
            obtain ⟨rest', f1, f2⟩ := fill_rel r2 (eis_drop ds.length (dfl_rel (ps := fn.ps) (hi1 ρ H))) e1
            have full := eis_append r1 f2
            obtain ⟨vs, g1, g2⟩ := stands_to full
            have hlen : (us ++ rest').length = fn.ps.length := by
              have := (fill_get f1).1
              rw [List.length_append, this, List.length_drop]
              unfold withDfl
              simp
              omega
            refine bind_plain (rest := rest') hpl hi3 (by omega) (by omega) (by omega) z4 z5 (by rw [l1]; exact z6) (by rw [l1]; exact f1) ?_
            exact hQ s H vs (us ++ rest') e0 Un.refl rfl (fun _ _ h => h) g1 (by rw [g1.length, hlen]) ⟨ρ, g2, .refl _ _, sr⟩
          · rw [if_neg hz] at q2; cases q2
        | true =>
          rw [hs] at q2 hst
          simp only [if_true] at q2
          obtain ⟨pn, hpv⟩ : ∃ pn, pv = some pn := Option.isSome_iff_exists.mp hst.symm
          subst hpv
          simp only [Option.toList] at hQ hpl ⊢
          by_cases hz : ks = [] ∧ es = [] ∧ fn.dfl = [] ∧ fn.ps.length ≤ ds.length ∧ ds.length ≤ line
          · rw [if_pos hz] at q2
            obtain ⟨z1, z2, z3, z4, z5⟩ := hz
            cases q2
            subst z1 z2
            cases r2
            have l1 : us.length = ds.length := r1.length
            have hi0 : its = [] := by rw [z3] at hi2; exact List.length_eq_zero_iff.mp hi2
            subst hi0
            have hsp : us = us.take fn.ps.length ++ us.drop fn.ps.length := (List.take_append_drop _ _).symm
            rw [hsp]
            refine bind_star hpl hi3 (by rw [List.length_take]; omega) nd ?_
            have hz2 : (us.drop fn.ps.length).length ≤ sizeLine := by rw [List.length_drop]; unfold line at z5; omega
            refine wpAny_newTuple ?_ hz2
            have hn : H s.heap.objs.size = none := e0.hok.fresh (Nat.le_refl _)
            obtain ⟨v1, g1, g2⟩ := stands_to (eis_take fn.ps.length r1)
            obtain ⟨v2, g3, g4⟩ := stands_to (eis_drop fn.ps.length r1)
            have new : ObjOk prog w (upd H s.heap.objs.size (.tup v2)) (s.heap.push ({ cls := .type "tuple", data := .seq (us.drop fn.ps.length).toArray } : Obj)) s.heap.objs.size (.tup v2) := ⟨by rw [g3.length]; exact hz2, _, g3, ⟨_, Heap.get?_push_size _ rfl, rfl, _, rfl⟩⟩
            have un := StX.un_laid (fs := frs outer) (s := s) (o := ({ cls := .type "tuple", data := .seq (us.drop fn.ps.length).toArray } : Obj)) (u := .tup v2) hn
            have z := hQ _ _ (v1 ++ [V.ref s.heap.objs.size]) (us.take fn.ps.length ++ [Value.ref s.heap.objs.size]) (StX.env0_laid e0 new) un rfl (fun e s' => StX.cxUp outer s H _ _ E e s' un (fun b o q => Heap.get?_push_of_some _ q) rfl) (g1.append (.cons rfl .nil))
              (by rw [List.length_append, List.length_append, g1.length, List.length_take]; simp; omega)
              ⟨ρ, (g2.mono (sr.ext_new hn)).append (.cons (upd_tup sr hn g4) .nil), sr.ext_new hn, sr.new hn⟩
            rw [List.zip_append (by rw [List.length_take]; omega)] at z
            exact z
          · rw [if_neg hz] at q2; cases q2
      · rintro s2 H2 vs ⟨ρ', g1, g2, g3⟩ hr2
        refine ⟨_, hb (run P n) n A outer s2 H2 E ih (hr'.deeper _), ?_⟩
        exact ⟨ρ', S, _, g3, ER.start g1 N fn.n hN.symm, PostX.ext g2 px⟩
theorem fnM_all (hf : ∀ f fn, P.fn f = some fn → FnAt prog w mg base L P fa f fn) : ∀ n, FnM prog w mg base L P fa (run P n) n
  | 0 => fnM_zero rfl
  | n + 1 => fnM_succ hf (fnM_all hf n)
end
end Mi
set_option Elab.async false
set_option linter.all false
set_option maxHeartbeats 1000000
namespace Mi
open PySem PySem.Spec PyProof.Rows L2
section
variable {env : PySem.Env} {pos apos : Pos}
def notStar : Expr → Bool
  | .Starred _ _ => false
  | _ => true
def notSlice : Expr → Bool
  | .Slice _ _ none _ => false
  | _ => true
def notComp : Expr → Bool
  | .ListComp .. => false
  | .SetComp .. => false
  | .DictComp .. => false
  | _ => true
def notSet : Expr → Bool
  | .Set .. => false
  | _ => true
def plainTest : Expr → Bool
  | .UnaryOp .Not _ _ => false
  | .BoolOp .. => false
  | .IfExp .. => false
  | .Compare .. => false
  | _ => true
def notCall0 : Expr → Bool
  | .Call (.Name _ _) [] [] _ => false
  | _ => true
theorem starEach_cons {a : Expr} {xs : List Expr} (h : notStar a = true) : starEach (a :: xs) env = (false, eval a env) :: starEach xs env := by
  cases a <;> first | rfl | cases h
theorem plain_any : ∀ {xs : List Expr}, xs.all notStar = true → (backTo pos (starEach xs env)).any (·.1) = false
  | [], _ => rfl
  | a :: xs, h => by
    simp only [List.all_cons, Bool.and_eq_true] at h
    rw [starEach_cons h.1]
    show (false || (backTo pos (starEach xs env)).any (·.1)) = false
    rw [plain_any h.2]
    rfl
theorem star_any : ∀ {xs : List Expr}, xs.all notStar = false → (backTo pos (starEach xs env)).any (·.1) = true
  | [], h => by simp at h
  | a :: xs, h => by
    cases q : notStar a with
    | true =>
      simp only [List.all_cons, q, Bool.true_and] at h
      rw [starEach_cons q]
      show (false || (backTo pos (starEach xs env)).any (·.1)) = true
      rw [star_any h]
      rfl
    | false =>
      cases a with
      | Starred e p =>
        show (true || (backTo pos (starEach xs env)).any (·.1)) = true
        rfl
      | _ => cases q
theorem plain_all : ∀ {xs : List Expr}, xs.all notStar = true → (backTo pos (starEach xs env)).all (fun x => !x.1) = true
  | [], _ => rfl
  | a :: xs, h => by
    simp only [List.all_cons, Bool.and_eq_true] at h
    rw [starEach_cons h.1]
    show (!false && (backTo pos (starEach xs env)).all (fun x => !x.1)) = true
    rw [plain_all h.2]
    rfl
/-- the keywords' names -/
def kwNames : List Keyword → Option (List Str)
  | [] => some []
  | ⟨some n, _, _⟩ :: r => (kwNames r).map (n :: ·)
  | ⟨none, _, _⟩ :: _ => none
theorem kw_all : ∀ {kws : List Keyword} {ks : List Str}, kwNames kws = some ks → (backToKw pos (keywordEach kws env)).all (·.1.isSome) = true ∧ (backToKw pos (keywordEach kws env)).filterMap (·.1) = ks ∧ (backToKw pos (keywordEach kws env)).any (·.1.isNone) = false
  | [], ks, h => by
    simp only [kwNames, Option.some.injEq] at h
    subst h
    exact ⟨rfl, rfl, rfl⟩
  | ⟨none, v, p⟩ :: r, ks, h => by simp [kwNames] at h
  | ⟨some n, v, p⟩ :: r, ks, h => by
    simp only [kwNames, Option.map_eq_some_iff] at h
    obtain ⟨ks', h, rfl⟩ := h
    obtain ⟨h1, h2, h3⟩ := kw_all h
    refine ⟨?_, ?_, ?_⟩
    · show ((some n).isSome && (backToKw pos (keywordEach r env)).all (·.1.isSome)) = true
      rw [h1]; rfl
    · show n :: (backToKw pos (keywordEach r env)).filterMap (·.1) = _
      rw [h2]
    · show ((some n).isNone || (backToKw pos (keywordEach r env)).any (·.1.isNone)) = false
      rw [h3]; rfl
theorem attr_plain {o : Expr} {f : Str} (h : notCall0 o = true) : attributeBase o f env (eval o env) = eval o env := by
  unfold attributeBase
  split
  · cases h
  · rfl
theorem plainIx {b : Expr} (h : notSlice b = true) : PlainIx b := by
  intro o i
  unfold subscripted
  split
  · cases h
  · next e => cases e
  · rfl
theorem isTrue_plain {a : Expr} (h : plainTest a = true) : ∀ whole, isTrue a env whole = (do let v ← whole; standAt a.pos; holding [v] (truthy v)) := by
  intro whole
  cases a with
  | UnaryOp op x p => cases op <;> first | rfl | cases h
  | BoolOp => cases h
  | IfExp => cases h
  | Compare => cases h
  | _ => rfl
theorem folded_plain {a : Expr} (h : notSet a = true) : ∀ x, foldedSetIterable a env x = pure x := by
  intro x
  unfold foldedSetIterable
  split
  · cases h
  · rfl
theorem swaps_plain {a : Expr} {t : Option Expr} {l : Nat} (h : notComp a = true) : swapsWith a t l env = pure false := by
  unfold swapsWith
  cases a <;> first | rfl | cases h
/-- no stores from the right -/
def noSwap (t v : Expr) : Bool := match t, v with
  | .Tuple .., .Tuple vs _ _ => vs.all (foldedForSure 8)
  | .List .., .Tuple .. => false
  | _, _ => true
theorem noSwap_ok {t v : Expr} (h : noSwap t v = true) : swappedStores [t] v env = pure none := by
  have key : ∀ ts kt pt vs kv pv, vs.all (foldedForSure 8) = true → swappedStores [.Tuple ts kt pt] (.Tuple vs kv pv) env = pure none := fun ts kt pt vs kv pv hf => by
    unfold swappedStores
    simp only
    split
    · rfl
    · split
      · rfl
      · split
        · rfl
        · first
          | rfl
          | rw [if_pos hf]
            rfl
  cases t with
  | Tuple ts kt pt =>
    cases v with
    | Tuple vs kv pv => exact key _ _ _ _ _ _ h
    | _ => unfold swappedStores; rfl
  | List ts pt =>
    cases v with
    | Tuple vs kv pv => cases h
    | _ => unfold swappedStores; rfl
  | _ => unfold swappedStores; rfl
theorem asgEach_cons {a : Expr} {xs : List Expr} (h : notStar a = true) : (assignEach (a :: xs) env) = (false, assign a env) :: assignEach xs env := by
  cases a <;> first | rfl | cases h
theorem asgEach_len : ∀ {xs : List Expr}, xs.all notStar = true → (assignEach xs env).length = xs.length ∧ (assignEach xs env).findIdx? (·.1) = none
  | [], _ => ⟨rfl, rfl⟩
  | a :: xs, h => by
    simp only [List.all_cons, Bool.and_eq_true] at h
    rw [asgEach_cons h.1]
    obtain ⟨h1, h2⟩ := asgEach_len h.2
    refine ⟨by simp [h1], ?_⟩
    rw [List.findIdx?_cons]
    simp [h2]
/-- a method call is worked out as one -/
theorem meth_form {o : Expr} {m : Str} {xs : List Expr} {kws : List Keyword} {ks : List Str} (h0 : notCall0 o = true) (h1 : xs.all notStar = true) (h2 : kwNames kws = some ks) (h3 : xs.length + kws.length + (if kws.isEmpty then 0 else 1) < 30) (h4 : (apos.endLine == pos.line) = true) :
    eval (.Call (.Attribute o m apos) xs kws pos) env = (do
      let ov ← eval o env
      standAt apos.atName
      let (f, first) ← holding [ov] (getMethod ov m (do return (← importBound o env).getD true))
      callWith pos f first (backTo pos (starEach xs env)) (backToKw pos (keywordEach kws env))) := by
  have e1 : eval (.Call (.Attribute o m apos) xs kws pos) env = (do
      let ov ← attributeBase o m env (eval o env)
      standAt apos.atName
      methodCall o m apos pos env ov (xs.length + kws.length) (backTo pos (starEach xs env)) (backToKw pos (keywordEach kws env))) := by
    rw [eval.eq_def]
  have hk : (backToKw pos (keywordEach kws env)).isEmpty = kws.isEmpty := by
    cases kws with
    | nil => rfl
    | cons k r => cases k; rfl
  have few : methodCallForm (xs.length + kws.length) (backTo pos (starEach xs env)) (backToKw pos (keywordEach kws env)) = true := by
    unfold methodCallForm
    rw [plain_all h1, (kw_all h2).1, hk]
    simp only [Bool.and_self, Bool.true_and, decide_eq_true_eq]
    exact h3
  rw [e1, attr_plain h0]
  congr 1
  funext ov
  congr 1
  funext _
  unfold methodCall calleeOf methodCallPos
  rw [few]
  simp only [if_true, Bool.not_true, Bool.false_or, h4]
  rfl
theorem few_ok {a : Expr} {xs : List Expr} (h1 : (a :: xs).all notStar = true) (h3 : (a :: xs).length < 30) : ((backTo pos (starEach (a :: xs) env)).all (fun x => !x.1) && (backToKw pos (keywordEach [] env)).all (fun x => x.1.isSome)
      && decide ((a :: xs).length + ([] : List Keyword).length + (if ([] : List Keyword).isEmpty then 0 else 1) < 30)) = true := by
  rw [plain_all h1]
  simp only [Bool.true_and, Bool.and_eq_true, decide_eq_true_eq]
  exact ⟨rfl, by simpa using h3⟩
/-- x, y = a, b: stored from the right -/
theorem swap2 {x y : Str} {px py pt : Pos} {kt k2 pt2} {a b : Expr} (hk : env.scope.kind = .function) (hx : env.scope.names.lookup x = some .local) (hy : env.scope.names.lookup y = some .local) (hxy : x ≠ y) (hl : (py.line == px.line) = true) (ha : notStar a = true) (hb : notStar b = true)
    (hf : [a, b].all (foldedForSure 8) = false) (hc : [a, b].all (constantsAlone 8) = false) : swappedStores [.Tuple [.Name x px, .Name y py] kt pt] (.Tuple [a, b] k2 pt2) env = pure (some [x, y]) := by
  have kx : env.kindOf x = some .local := hx
  have ky : env.kindOf y = some .local := hy
  have hb' : env.blockKind = .function := by unfold PySem.Env.blockKind; rw [hk]; rfl
  have hs : ([a, b].any fun | .Starred .. => true | _ => false) = false := by
    cases a <;> first | (cases ha; done) | (cases b <;> first | (cases hb; done) | rfl)
  have e0 : (px.line == px.line) = true := by simp
  have ed : [x, y].eraseDups = [x, y] := by
    have q : (y == x) = false := beq_eq_false_iff_ne.mpr (Ne.symm hxy)
    rw [List.eraseDups_cons]
    simp only [List.filter_cons, List.filter_nil, q, Bool.not_false, if_true]
    rw [List.eraseDups_cons]
    simp
  unfold swappedStores
  simp only [hb', hf, hc, List.length_cons, List.length_nil]
  rw [if_neg (by decide)]
  rw [if_neg (by
    rw [List.any_eq_true]
    rintro ⟨e, he, q⟩
    have hn : notStar e = true := by
      simp only [List.mem_cons, List.not_mem_nil, or_false] at he
      rcases he with rfl | rfl <;> assumption
    cases e <;> first | (cases q; done) | (cases hn; done) | (simp at q; done))]
  simp only [List.filterMap_cons, List.filterMap_nil, List.head?_cons, Option.map_some, Option.getD_some, Expr.pos, kx, ky, beq_self_eq_true, Bool.true_and, Bool.and_true, hl, if_true, ed]
  rw [if_neg (by simp), if_neg (by simp), if_neg (by simp)]
theorem swap3 {x y z : Str} {px py pz pt : Pos} {kt k2 pt2} {a b c : Expr} (hk : env.scope.kind = .function) (hx : env.scope.names.lookup x = some .local) (hy : env.scope.names.lookup y = some .local) (hz : env.scope.names.lookup z = some .local) (hxy : x ≠ y) (hxz : x ≠ z) (hyz : y ≠ z)
    (hl : (py.line == px.line) = true) (hl2 : (pz.line == px.line) = true) (ha : notStar a = true) (hb : notStar b = true) (hcc : notStar c = true)
    (hf : [a, b, c].all (foldedForSure 8) = false) (hc : [a, b, c].all (constantsAlone 8) = false) : swappedStores [.Tuple [.Name x px, .Name y py, .Name z pz] kt pt] (.Tuple [a, b, c] k2 pt2) env = pure (some [x, y, z]) := by
  have kx : env.kindOf x = some .local := hx
  have ky : env.kindOf y = some .local := hy
  have kz : env.kindOf z = some .local := hz
  have hb' : env.blockKind = .function := by unfold PySem.Env.blockKind; rw [hk]; rfl
  have ed : [x, y, z].eraseDups = [x, y, z] := by
    have q : (y == x) = false := beq_eq_false_iff_ne.mpr (Ne.symm hxy)
    have q2 : (z == x) = false := beq_eq_false_iff_ne.mpr (Ne.symm hxz)
    have q3 : (z == y) = false := beq_eq_false_iff_ne.mpr (Ne.symm hyz)
    rw [List.eraseDups_cons]
    simp only [List.filter_cons, List.filter_nil, q, q2, Bool.not_false, if_true]
    rw [List.eraseDups_cons]
    simp only [List.filter_cons, List.filter_nil, q3, Bool.not_false, if_true]
    rw [List.eraseDups_cons]
    simp
  unfold swappedStores
  simp only [hb', hf, hc, List.length_cons, List.length_nil]
  rw [if_neg (by decide)]
  rw [if_neg (by
    rw [List.any_eq_true]
    rintro ⟨e, he, q⟩
    have hn : notStar e = true := by
      simp only [List.mem_cons, List.not_mem_nil, or_false] at he
      rcases he with rfl | rfl | rfl <;> assumption
    cases e <;> first | (cases q; done) | (cases hn; done) | (simp at q; done))]
  simp only [List.filterMap_cons, List.filterMap_nil, List.head?_cons, Option.map_some, Option.getD_some, Expr.pos, kx, ky, kz, beq_self_eq_true, Bool.true_and, Bool.and_true, hl, hl2, if_true, ed]
  rw [if_neg (by simp), if_neg (by simp), if_neg (by simp)]
/-- a target that is no name: nothing is stored early -/
theorem swaps_other {a t : Expr} {l : Nat} (h : (match t with
    | .Name _ _ => false
    | _ => true) = true) : swapsWith a (some t) l env = pure false := by
  unfold swapsWith
  cases a <;> first | rfl | (cases t <;> first | rfl | cases h)
theorem filterMap_lt {α β : Type} {f : α → Option β} : ∀ {l : List α}, (∃ x ∈ l, f x = none) → (l.filterMap f).length < l.length
  | [], ⟨x, h, _⟩ => by simp at h
  | a :: l, ⟨x, h, e⟩ => by
    rw [List.filterMap_cons]
    rcases List.mem_cons.mp h with rfl | h
    · rw [e]
      exact Nat.lt_succ_of_le (List.length_filterMap_le f l)
    · have ih := filterMap_lt (l := l) ⟨x, h, e⟩
      cases q : f a with
      | none => simp only; exact Nat.lt_succ_of_lt ih
      | some b => simp only [List.length_cons]; omega
/-- a name among the targets that is a cell -/
def cellT (sc : Scope) (t v : Expr) : Bool := match t, v with
  | .Tuple ts _ _, .Tuple _ _ _ => ts.any fun
    | .Name id _ => !decide (sc.names.lookup id = some .local)
    | _ => false
  | _, _ => false
theorem cellT_ok {sc : Scope} {t v : Expr} (hs : env.scope = sc) (h : cellT sc t v = true) : swappedStores [t] v env = pure none := by
  unfold cellT at h
  split at h
  · next ts kt pt vs kv pv =>
    rw [List.any_eq_true] at h
    obtain ⟨x, hx, hc⟩ := h
    have hlt : ∀ line : Nat, (ts.filterMap fun
      | .Name id pos => if env.kindOf id == some .local && pos.line == line then some id else none
      | _ => none).length < ts.length := fun line => filterMap_lt ⟨x, hx, by
        cases x with
        | Name id pos =>
          simp only [Bool.not_eq_true', decide_eq_false_iff_not] at hc
          have : env.kindOf id ≠ some .local := by
            show env.scope.names.lookup id ≠ _
            rw [hs]; exact hc
          simp [this]
        | _ => cases hc⟩
    unfold swappedStores
    simp only
    split
    · rfl
    · split
      · rfl
      · rw [if_pos]
        have := hlt ((Option.map (fun x => x.pos.line) ts.head?).getD 0)
        simp only [Bool.or_eq_true, bne_iff_ne, ne_eq]
        exact .inl (Nat.ne_of_lt this)
  · cases h
end
theorem lookup_mem {α β : Type} [BEq α] [LawfulBEq α] {a : α} {b : β} : ∀ {l : List (α × β)}, l.lookup a = some b → (a, b) ∈ l
  | [], h => by simp at h
  | (c, d) :: l, h => by
    unfold List.lookup at h
    cases q : a == c with
    | true =>
      rw [q] at h
      cases h
      have e := eq_of_beq q
      subst e
      exact List.mem_cons_self ..
    | false =>
      rw [q] at h
      exact List.mem_cons_of_mem _ (lookup_mem h)
end Mi
set_option Elab.async false
set_option linter.all false
set_option maxRecDepth 100000
set_option maxHeartbeats 4000000
namespace Sx
open PySem PySem.W PySem.Calls PyProof.Rows PySem.HandSPX
/-- later stores go on top -/
def rd : List (Str × Value) → Str → Option Value
  | [], _ => none
  | (f, v) :: r, y => if y = f then some v else rd r y
theorem rd_within : ∀ l : List (Str × Value), Within (rd l) (l.map (·.1))
  | [], y, h => absurd rfl h
  | (f, v) :: r, y, h => by
    unfold rd at h
    by_cases e : y = f
    · simp [e]
    · rw [if_neg e] at h
      exact List.mem_cons_of_mem _ (rd_within r y h)
section
open Builtin Builtin.ObjectAttr
variable {prog : Program} {w : World} {A : Around} {E : Value → Shared → Prop} {R : Result → Shared → Prop} {hh : Heap} {g : Array GenState} {d : Drawn} {t : Nat} {os : OsState}
/-- what a class is asked for its instances' stores -/
structure Storable (K : Frag) (C : Addr) (cd : ClassData) : Prop where
  cls : clsIn K C = some cd
  pass : ∀ self : Value, refuseLoop self "__setattr__" cd.mro = pure ()
  obj : cd.mro.contains (.type "object") = true
  full : cd.mro.isEmpty = false
  dict : cd.hasDict = true
/-- the first field of a fresh exception -/
theorem gx_store0 {K : Frag} {fld : Str} {tk : Tok} {val : Value} {x C : Addr} {fv : Array Value} {cd : ClassData}
    (KI : K.In hh) (hx : hh.get? x = some { cls := .ref C, data := .fields fv }) (SC : Storable K C cd) (hno : findIn K (.ref C) fld = some none)
    (go : ∀ h2 tk2 dx, (∀ b o, b ≠ x → hh.get? b = some o → h2.get? b = some o) → hh.objs.size ≤ dx → dx ≠ x → h2.get? x = some { cls := .ref C, dict := some dx, data := .fields fv } →
      h2.Ns1 dx (rd [(fld, val)]) → R (.ok (.ret .none)) ⟨h2, g, d, tk2, os⟩) :
    codeAny (model prog w) A (.call (.builtin "object.__setattr__") ⟨[.ref x, .str fld tk, val], []⟩) R ⟨hh, g, d, t, os⟩ := by
  have IA : InstAt hh x { cls := .ref C, data := .fields fv } C none := ⟨hx, rfl, rfl, trivial⟩
  have so := F.store_object
  have hcd := SC.cls
  have xs : x ≠ hh.objs.size := Nat.ne_of_lt (Heap.lt_size hx)
  have isO : Looks (model prog w) hh (isInstance (.ref x) (.type "object")) true := IA.type.andThen (looks_mroIn KI (by unfold mroIn; rw [hcd, Option.bind_some, if_neg (by rw [SC.full]; decide), SC.obj]))
  refine codeAny_call_builtin so.slot.plain so.entry (@check_slot (model prog w) _ _ ⟨hh, g, d, t, os⟩ "object.__setattr__" "object" "__setattr__" (.ref x) [.str fld tk, val] [] _ so.kind so.split isO (so.args (.ref x) (.str fld tk) val) ?_)
  have lm : Looks (model prog w) hh (mroOf (.ref C)) cd.mro := (looks_clsIn KI hcd).andThen .now
  have lt : Looks (model prog w) hh (storeTaker? none) none := .now
  have lc : Looks (model prog w) hh (classData C) cd := looks_clsIn KI hcd
  rw [osa_eq, refuse_eq]
  refine wpAny_bind (wpAny_bind (IA.type.at (wpAny_bind (lm.at ?_))))
  rw [SC.pass]
  refine wpAny_pure (wpAny_bind (IA.type.at (wpAny_bind ((looks_findIn KI hno).at (wpAny_bind (lt.at ?_))))))
  show wpAny _ _ (storeInOwnDict (.ref x) (.ref C) (.str fld tk) fld val false) _ _ _
  have hD := SC.dict
  obtain ⟨nm, bs, mro, ns, qn, hd, sn, sb, ab, col, del⟩ := cd
  dsimp only at hD
  subst hD
  unfold storeInOwnDict ownDictForStores
  repeat (first | with_reducible refine store_in_new ?_ ?_ | with_reducible refine wpAny_loadPart_at hx ?_ | with_reducible refine lc.at ?_ | wp_step)
  · exact ⟨_, #[], _, (Heap.get?_update_ne _ _ _ _ xs.symm).trans (Heap.get?_push_at rfl rfl), rfl, fun e he => absurd he (by simp), fun _ => rfl⟩
  · intro h2 tk2 hn2 hs
    have hx1 : (hh.push { cls := .type "dict", data := .dict #[] }).get? x = some { cls := .ref C, data := .fields fv } := Heap.get?_push_of_some _ hx
    refine go h2 tk2 hh.objs.size (fun b o hb ho => ?_) (Nat.le_refl _) xs.symm ?_ hn2
    · exact (hs.2 b (Nat.ne_of_lt (Heap.lt_size ho))).trans ((Heap.get?_update_ne _ _ _ _ hb).trans (Heap.get?_push_of_some _ ho))
    · exact (hs.2 x xs).trans (Heap.get?_update_self _ hx1 rfl)
/-- a further field -/
theorem gx_store1 {K : Frag} {fld : Str} {tk : Tok} {val : Value} {x C dx : Addr} {fv : Array Value} {cd : ClassData} {l : List (Str × Value)}
    (KI : K.In hh) (hx : hh.get? x = some { cls := .ref C, dict := some dx, data := .fields fv }) (hns : hh.Ns1 dx (rd l)) (hz : l.length ≤ 1000) (SC : Storable K C cd) (hno : findIn K (.ref C) fld = some none)
    (go : ∀ h2 tk2, (∀ b o, b ≠ dx → hh.get? b = some o → h2.get? b = some o) → h2.Ns1 dx (rd ((fld, val) :: l)) → R (.ok (.ret .none)) ⟨h2, g, d, tk2, os⟩) :
    codeAny (model prog w) A (.call (.builtin "object.__setattr__") ⟨[.ref x, .str fld tk, val], []⟩) R ⟨hh, g, d, t, os⟩ := by
  obtain ⟨oD, esD, epD, hoD, hdD, _⟩ := hns.count (rd_within l)
  have IA : InstAt hh x { cls := .ref C, dict := some dx, data := .fields fv } C (some oD) := ⟨hx, rfl, rfl, hoD⟩
  have so := F.store_object
  have hcd := SC.cls
  have isO : Looks (model prog w) hh (isInstance (.ref x) (.type "object")) true := IA.type.andThen (looks_mroIn KI (by unfold mroIn; rw [hcd, Option.bind_some, if_neg (by rw [SC.full]; decide), SC.obj]))
  refine codeAny_call_builtin so.slot.plain so.entry (@check_slot (model prog w) _ _ ⟨hh, g, d, t, os⟩ "object.__setattr__" "object" "__setattr__" (.ref x) [.str fld tk, val] [] _ so.kind so.split isO (so.args (.ref x) (.str fld tk) val) ?_)
  have lm : Looks (model prog w) hh (mroOf (.ref C)) cd.mro := (looks_clsIn KI hcd).andThen .now
  have lt : Looks (model prog w) hh (storeTaker? none) none := .now
  have lc : Looks (model prog w) hh (classData C) cd := looks_clsIn KI hcd
  rw [osa_eq, refuse_eq]
  refine wpAny_bind (wpAny_bind (IA.type.at (wpAny_bind (lm.at ?_))))
  rw [SC.pass]
  refine wpAny_pure (wpAny_bind (IA.type.at (wpAny_bind ((looks_findIn KI hno).at (wpAny_bind (lt.at ?_))))))
  show wpAny _ _ (storeInOwnDict (.ref x) (.ref C) (.str fld tk) fld val false) _ _ _
  have hD := SC.dict
  obtain ⟨nm, bs, mro, ns, qn, hd, sn, sb, ab, col, del⟩ := cd
  dsimp only at hD
  subst hD
  unfold storeInOwnDict ownDictForStores
  repeat (first | with_reducible refine PySem.OEX.store_in_old hns (rd_within l) (by rw [List.length_map]; exact hz) ?_ | with_reducible refine wpAny_loadPart_at hx ?_ | with_reducible refine lc.at ?_ | wp_step)
  intro h2 tk2 hn2 hs
  exact go h2 tk2 (fun b o hb ho => (hs.2 b hb).trans ho) hn2
end
def storesB : List Stmt → List Str → Bool
  | [], [] => true
  | .Assign [.Attribute (.Name a _) f _] (.Name b _) _ :: r, f' :: fs => decide (a = "self") && (decide (f = f') && (decide (b = f') && storesB r fs))
  | _, _ => false
def initB : List Stmt → List Str → Bool
  | .Expr (.Call (.Attribute (.Call (.Name a _) [] [] _) m ap) [.Constant (.str _) _ _] [] cp) _ :: r, fs => decide (a = "super") && (decide (m = "__init__") && ((ap.endLine == cp.line) && storesB r fs))
  | _, _ => false
theorem storesB_cons {s0 : Stmt} {r : List Stmt} {fs : List Str} (h : storesB (s0 :: r) fs = true) : ∃ p1 p2 p3 p4 f fs', s0 = .Assign [.Attribute (.Name "self" p1) f p2] (.Name f p3) p4 ∧ fs = f :: fs' ∧ storesB r fs' = true := by
  unfold storesB at h
  split at h
  · exact absurd ‹s0 :: r = []› (by simp)
  · next a p1 f p2 b p3 p4 r' f' fs' e1 =>
    cases e1
    simp only [Bool.and_eq_true, decide_eq_true_eq] at h
    obtain ⟨rfl, rfl, rfl, h4⟩ := h
    exact ⟨_, _, _, _, _, _, rfl, rfl, h4⟩
  · cases h
section
variable {prog : Program} {w : World} {A : Around} {E : Value → Shared → Prop} {hh : Heap} {g : Array GenState} {d : Drawn} {t : Nat} {os : OsState}
theorem gx_mw {B i newId : String} {bmB : List Value} {nm q : Str} {C N u e t0 : Addr} {bs bm : List Value} {hdct : Bool} {sn : List Str} {sub : List Value} {ab : Bool} {col : Option Bool} {dd : Option Addr} {k0 k1 k2 k3 k5 : Option Value} {rest : List Value} {Q : Value → Shared → Prop}
    (FB : ExcBaseFacts B newId i bmB) (hC : hh.get? C = some (excClassObj nm q C N bs bm hdct sn sub ab col dd k0 k1 k2 k3 k5 newId)) (he : hh.get? e = some (excO C t0)) (hu : hh.get? u = some (kxs_mw i e)) (hz : rest.length ≤ sizeLine)
    (go : ∀ h2 t1, (∀ b o, b ≠ e → hh.get? b = some o → h2.get? b = some o) → h2.get? e = some (excO C t1) → Q .none ⟨h2, g, d, t, os⟩) :
    wpAny (model prog w) A (call (.ref u) rest) Q E ⟨hh, g, d, t, os⟩ := by
  refine wpAny_call (codeAny_of_tree ?_)
  show wpAny _ A.in1 (callAny (.ref u) ⟨rest, []⟩) _ _ _
  simp only [callAny]
  refine wpAny_bind (wpAny_load hu ?_)
  have two : (Value.type "method-wrapper" == Value.type "method" || Value.type "method-wrapper" == Value.type "builtin_function_or_method" || Value.type "method-wrapper" == Value.type "method-wrapper") = true := by decide
  simp only [kxs_mw, two, if_true]
  refine KFB.if_so (by decide) ?_
  refine wpAny_bind (check_bound_init FB.toExcCallFacts hC he rfl ?_)
  refine wpAny_bind (wpAny_pure (wpAny_pure ?_))
  refine ⟨plainId_quiet FB.init.plain _, codeAny_builtin FB.initEntry ?_⟩
  exact exc_init_tree (cls := .ref C) (t0 := t0) (dv := none) (c2 := .none) (c3 := .none) (b4 := .bool false) he hz fun h2 k1 e2 _ => go h2 _ k1 e2
theorem gx_name {M : Model} {env : Env} {m : Str → Option Value} {x : Str} {pos : Pos} {v : Value} {Q : Value → Shared → Prop} {s : Shared} (hn : s.heap.Ns env.locals m) (hk : env.scope.kind = .function) (hl : env.kindOf x = some .local) (hv : m x = some v) (hd : (x == ("__debug__" : Str)) = false) (h : Q v s) :
    wpAny M A (eval (.Name x pos) env) Q E s := wpAny_Name (wpAny_loadName_local hk hl hn hv h) hd
/-- super().m(x) is worked out as a method's call -/
theorem gx_form {o e : Expr} {m : Str} {apos pos : Pos} {env : Env} (h1 : ([e] : List Expr).all Mi.notStar = true) (h4 : (apos.endLine == pos.line) = true) :
    eval (.Call (.Attribute o m apos) [e] [] pos) env = (do
      let ov ← attributeBase o m env (eval o env)
      standAt apos.atName
      let (f, first) ← holding [ov] (getMethod ov m (do return (← importBound o env).getD true))
      callWith pos f first (backTo pos (starEach [e] env)) []) := by
  have e1 : eval (.Call (.Attribute o m apos) [e] [] pos) env = (do
      let ov ← attributeBase o m env (eval o env)
      standAt apos.atName
      methodCall o m apos pos env ov (1 + 0) (backTo pos (starEach [e] env)) (backToKw pos (keywordEach [] env))) := by
    rw [eval.eq_def]
    rfl
  have few : methodCallForm (1 + 0) (backTo pos (starEach [e] env)) (backToKw pos (keywordEach [] env)) = true := by
    unfold methodCallForm
    rw [Mi.plain_all h1]
    rfl
  rw [e1]
  congr 1
  funext ov
  congr 1
  funext _
  unfold methodCall calleeOf methodCallPos
  rw [few]
  simp only [if_true, Bool.not_true, Bool.false_or, h4]
  rfl
/-- the stores that follow the first -/
theorem gx_later {K : Frag} {x C dx : Addr} {fv : Array Value} {cd : ClassData} {env : Env} {m : Str → Option Value} (SC : Storable K C cd) (hsa : findIn K (.ref C) "__setattr__" = some (some (.builtin "object.__setattr__")))
    (hk : env.scope.kind = .function) (hself : env.kindOf "self" = some .local) (mself : m "self" = some (.ref x)) (hxd : x ≠ dx) (hLd : env.locals ≠ dx) (Kd : K.lookup dx = none) {Q : Flow → Shared → Prop} :
    ∀ (st : List Stmt) (fs : List Str) (vs : List Value) (l : List (Str × Value)) (hh : Heap) (t : Nat), storesB st fs = true → fs.length = vs.length → (∀ f ∈ fs, env.kindOf f = some .local ∧ (f == ("__debug__" : Str)) = false ∧ findIn K (.ref C) f = some none) → (∀ p ∈ fs.zip vs, m p.1 = some p.2) →
      K.In hh → hh.Ns env.locals m → hh.get? x = some { cls := .ref C, dict := some dx, data := .fields fv } → hh.Ns1 dx (rd l) → l.length + fs.length ≤ 1000 →
      (∀ h2 t2, (∀ b o, b ≠ dx → hh.get? b = some o → h2.get? b = some o) → h2.Ns1 dx (rd ((fs.zip vs).reverse ++ l)) → Q .next ⟨h2, g, d, t2, os⟩) →
      wpAny (model prog w) A (execs st env) Q E ⟨hh, g, d, t, os⟩ := by
  intro st
  induction st with
  | nil =>
    intro fs vs l hh t hb hl hf hm KI hn hx hns hz go
    cases fs with
    | nil => exact wpAny_execs_nil (go hh t (fun _ _ _ h => h) (by simpa using hns))
    | cons f fs => simp [storesB] at hb
  | cons s0 r ih =>
    intro fs vs l hh t hb hl hf hm KI hn hx hns hz go
    obtain ⟨p1, p2, p3, p4, f, fs', rfl, rfl, hb2⟩ := storesB_cons hb
    cases vs with
    | nil => cases hl
    | cons v vs =>
      obtain ⟨f1, f2, f3⟩ := hf f (by simp)
      have fm : m f = some v := hm (f, v) (by simp)
      refine wpAny_execs_cons (plainObj_wpAny_Assign_Attribute ?_)
      refine gx_name hn hk f1 fm f2 (gx_name hn hk hself mself (by decide) ?_)
      obtain ⟨oD, _, _, hoD, _, _⟩ := hns.count (rd_within l)
      refine set_plain KI (ox := { cls := .ref C, dict := some dx, data := .fields fv }) (od := some oD) ⟨hx, rfl, rfl, hoD⟩ hsa ?_
      simp only [List.length_cons] at hz hl
      refine gx_store1 KI hx hns (by omega) SC f3 fun h2 t2 k2 n2 => ?_
      show wpAny _ _ (execs r env) _ _ _
      refine ih fs' vs ((f, v) :: l) h2 t2 hb2 (by omega) (fun y hy => hf y (by simp [hy])) (fun p hp => hm p (by simp [hp])) (fun a o e => k2 a o (fun z => by rw [z, Kd] at e; cases e) (KI a o e)) (hn.at fun o q => k2 _ o hLd q) (k2 _ _ hxd hx) n2 (by simp only [List.length_cons]; omega) fun h3 t3 k3 n3 => ?_
      refine go h3 t3 (fun b o hb2 e => k3 b o hb2 (k2 b o hb2 e)) ?_
      rw [List.zip_cons_cons, List.reverse_cons, List.append_assoc]
      exact n3
theorem initB_cons {st : List Stmt} {fs : List Str} (h : initB st fs = true) : ∃ p1 p2 p3 p4 p5 p6 z kd r, st = .Expr (.Call (.Attribute (.Call (.Name "super" p1) [] [] p2) "__init__" p3) [.Constant (.str z) kd p4] [] p5) p6 :: r ∧ (p3.endLine == p5.line) = true ∧ storesB r fs = true := by
  unfold initB at h
  split at h
  · next a p1 p2 m p3 z kd p4 p5 p6 r fs' =>
    rw [Bool.and_eq_true, Bool.and_eq_true, Bool.and_eq_true, decide_eq_true_eq, decide_eq_true_eq] at h
    obtain ⟨rfl, rfl, h3, h4⟩ := h
    exact ⟨_, _, _, _, _, _, _, _, _, rfl, h3, h4⟩
  · cases h
end
/-- what the written part says of an own exception class and its __init__ -/
structure XTxt (prog : Program) (K : Frag) (C fI : Addr) (B i newId : String) (bmB : List Value) (fs : List Str) (its : List Value) : Prop where
  FB : ExcBaseFacts B newId i bmB
  KF : KxsFacts B i
  SF : StoreFacts B bmB "object.__setattr__" "object"
  cls : ∃ nm q N bs bm sn sub ab col dd k0 k1 k2 k3 k5, K.lookup C = some (excClassObj nm q C N bs bm true sn sub ab col dd k0 k1 k2 k3 k5 newId) ∧ excTail bmB bm = true ∧ alongIn K "__init__" bm = some (some (.builtin i))
  sa : findIn K (.ref C) "__setattr__" = some (some (.builtin "object.__setattr__"))
  noN : ∀ f ∈ fs, findIn K (.ref C) f = some none
  iC : findIn K (.ref C) "__init__" = some (some (.ref fI))
  tC : typeIn K (.ref fI) = some (.type "function")
  kC : keepIn K (.ref C) = true
  exC : subIn K (.ref C) (.type "BaseException") = some true
  tyC : typeIn K (.ref C) = some (.type "type")
  mB : mroIn K C (.type B) = some true
  mC : mroIn K C (.ref C) = some true
  op : nsIn K cStatics "thirdparty.any" = some none
  sup : nsIn K mainGlobals "super" = some none
  top : (prog.main.scope.names.lookup ("super" : Str)).isSome = false
  nodup : (("self" : Str) :: fs).Nodup
  small : fs.length ≤ 900
  fne : fs ≠ []
  fn : ∃ (oc : Value) (od : Option Addr) (name qual : Str) (params : Arguments) (body : List Stmt) (scope : Scope) (dV kV doc pm : Value) (an : Option Addr) (cda : Addr) (ct : Value) (cc : Addr) (osl : Array (Option Value)) (ccl : Value) (cdd : Option Addr) (vs : Array Value) (ccs : Array (Option Value)) (file : Str) (tf : Tok) (cl : Value) (cld : Option Addr) (csl : Array (Option Value)),
    K.lookup fI = some ⟨oc, od, .func (ksFn name qual params body scope dV kV doc pm an (.ref cda) ct cc), osl⟩ ∧ codeIn K (.ref cda) qual = true ∧ K.lookup cda = some ⟨ccl, cdd, .fields vs, ccs⟩ ∧ vs[2]? = some (.str file tf) ∧ ((prog.main.file : Str) == file) = true ∧
    K.lookup cc = some ⟨cl, cld, .cell (some (.ref C)), csl⟩ ∧ params.posonlyargs = [] ∧ params.kwonlyargs = [] ∧ params.kwarg = none ∧ params.vararg = none ∧ params.args.map (·.arg) = ("self" : Str) :: fs ∧ initB body fs = true ∧
    scope.kind = .function ∧ scope.isCoroutine = false ∧ scope.isGenerator = false ∧ (∀ x ∈ scope.names, x.2 ≠ .cell) ∧ scope.names.lookup ("super" : Str) = some .globalImplicit ∧ scope.names.lookup ("__class__" : Str) = some .free ∧
    (∀ f ∈ ("self" : Str) :: fs, scope.names.lookup f = some .local ∧ (f == ("__debug__" : Str)) = false) ∧
    ((dV = .none ∧ its = []) ∨ ∃ (T : Addr) (o : Obj) (n : Nat), dV = .ref T ∧ K.lookup T = some o ∧ o.data = .seq its.toArray n) ∧ its.length ≤ fs.length
/-- a made exception: at e, its own dict at d -/
structure Made (h h' : Heap) (e C d : Addr) (l : List (Str × Value)) : Prop where
  keep : ∀ b o, h.get? b = some o → h'.get? b = some o
  new : h.objs.size ≤ e
  obj : ∃ t1 : Addr, h'.get? e = some ({ cls := .ref C, dict := some d, data := .fields #[.ref t1, .none, .none, .none, .bool false, .none] } : Obj)
  dbig : h.objs.size ≤ d
  dne : d ≠ e
  ns : h'.Ns1 d (rd l)
end Sx
set_option Elab.async false
set_option linter.all false
set_option maxRecDepth 100000
set_option maxHeartbeats 4000000
namespace Sx
open PySem PySem.W PySem.Calls PyProof.Rows PySem.HandSPX
theorem rev_look {α : Type} : ∀ {l : List (Str × α)} {x : Str} {v : α}, (l.map (·.1)).Nodup → (x, v) ∈ l → l.reverse.lookup x = some v := by
  intro l x v hnd hm
  have h1 : (l.reverse.map (·.1)).Nodup := by rw [List.map_reverse]; exact (List.reverse_perm _).nodup_iff.mpr hnd
  have h2 : (x, v) ∈ l.reverse := List.mem_reverse.mpr hm
  generalize l.reverse = m at h1 h2
  induction m with
  | nil => cases h2
  | cons p m ih =>
    obtain ⟨y, u⟩ := p
    simp only [List.map_cons, List.nodup_cons] at h1
    rcases List.mem_cons.mp h2 with e | e
    · cases e
      simp [List.lookup]
    · have hne : (x == y) = false := by
        simp only [beq_eq_false_iff_ne, ne_eq]
        intro z
        exact h1.1 (List.mem_map.mpr ⟨(x, v), e, z⟩)
      unfold List.lookup
      rw [hne]
      exact ih h1.2 e
theorem zip_keys {α : Type} : ∀ {fs : List Str} {vs : List α}, vs.length = fs.length → (fs.zip vs).map (·.1) = fs
  | [], [], _ => rfl
  | f :: fs, v :: vs, h => by
    simp only [List.length_cons] at h
    simp [zip_keys (fs := fs) (vs := vs) (by omega)]
section
variable {prog : Program} {w : World} {A : Around} {K : Frag} {C fI : Addr} {B i newId : String} {bmB : List Value} {fs : List Str} {its : List Value} {mg : Str → Option Value} {base : Heap}
theorem gx_init (T : XTxt prog K C fI B i newId bmB fs its) (MB : L2.Mod K mg base) {s : Shared} {x t0 : Addr} {vs : List Value} {R : Result → Shared → Prop} (hlen : vs.length = fs.length)
    (kb : ∀ b o, base.get? b = some o → s.heap.get? b = some o) (hx : s.heap.get? x = some (excO C t0)) (hbx : base.get? x = none) (hroom : A.depth < recursionLimit)
    (go : ∀ h2 tk dx t1, (∀ b o, b ≠ x → s.heap.get? b = some o → h2.get? b = some o) → h2.get? x = some ({ cls := .ref C, dict := some dx, data := .fields #[.ref t1, .none, .none, .none, .bool false, .none] } : Obj) → s.heap.objs.size ≤ dx → dx ≠ x → h2.Ns1 dx (rd (fs.zip vs).reverse) →
      R (.ok (.ret .none)) { s with heap := h2, toks := tk }) :
    codeAny (model prog w) A (.call (.ref fI) ⟨.ref x :: vs, []⟩) R s := by
  obtain ⟨oc, od, name, qual, params, body, scope, dV, kV, doc, pm, an, cda, ct, cc, osl, ccl, cdd, cvs, ccs, file, tf, cl, cld, csl, ho, hcd, hcode, hvs, hfile, hcell, q1, q2, q3, q4, q5, hib, sk, sco, sge, scell, ssup, scls, sloc, hdv, hits⟩ := T.fn
  obtain ⟨nm, q, N, bs, bm, sn, sub, ab, col, dd, k0, k1, k2, k3, k5, hC, hbm, hal⟩ := T.cls
  have KB : K.In base := MB.kin
  have KI : K.In s.heap := KB.keeps kb
  have hlim : s.heap.NoLimit := MB.nolimit.keeps kb
  have hnx : K.lookup x = none := by
    cases e : K.lookup x with
    | none => rfl
    | some o => have z := KB _ _ e; rw [hbx] at z; cases z
  let fd : FuncData := ksFn name qual params body scope dV kV doc pm an (.ref cda) ct cc
  have PD : Mi.PlainD fd (("self" : Str) :: fs) none := ⟨q1, q2, q3, q5, by show params.vararg.map (·.arg) = none; rw [q4]; rfl⟩
  have hbind : BindsTo s fd ⟨.ref x :: vs, []⟩ ((("self" : Str) :: fs).zip (.ref x :: vs)) := by
    intro M A' E' Q' hq
    have := Mi.bind_plain (M := M) (A := A') (E := E') (s := s) (us := .ref x :: vs) (ws := []) (its := its) (rest := []) (ks := []) (Q := Q') PD ?_ (by simp [hlen]) rfl (by simp; omega) T.nodup List.nodup_nil (fun k hk => by cases hk) (by
        have hl2 : (Mi.withDfl (("self" : Str) :: fs) its).length = (vs.length + 1) := by unfold Mi.withDfl; simp; omega
        rw [List.drop_eq_nil_of_le (by rw [hl2]; simp)]
        rfl) (by rw [List.append_nil]; exact hq)
    · exact this
    · intro Q2 h2
      rcases hdv with ⟨rfl, rfl⟩ | ⟨TT, oT, nT, rfl, e1, e2⟩
      · exact wpAny_pure (h2 none rfl)
      · exact wpAny_seqItems (KI _ _ e1) e2 (h2 _ (by simp))
  have hkeys : ((("self" : Str) :: fs).zip (Value.ref x :: vs)).map (·.1) = ("self" : Str) :: fs := zip_keys (by simp [hlen])
  have hloc : ∀ y ∈ (("self" : Str) :: fs).zip (Value.ref x :: vs), fd.scope.names.lookup y.1 = some .local := fun y hy => (sloc y.1 (by rw [← hkeys]; exact List.mem_map.mpr ⟨y, hy, rfl⟩)).1
  refine ks_codeAny_call_defAt (fd := fd) (body := body) hroom (KI _ _ ho) rfl hlim (codeRec_of KI hcd) rfl hbind scell hloc (fun h1 hns kk => ?_) sco sge sk
  obtain ⟨p1, p2, p3, p4, p5, p6, z, kd, r, rfl, hline, hst⟩ := initB_cons hib
  have hxL : s.heap.objs.size ≠ x := Nat.ne_of_gt (Heap.lt_size hx)
  have K1 : K.In h1 := KI.keeps kk
  have B1 : ∀ b o, base.get? b = some o → h1.get? b = some o := fun b o e => kk b o (kb b o e)
  have hx1 := kk _ _ hx
  have mself : ((("self" : Str) :: fs).zip (Value.ref x :: vs)).reverse.lookup ("self" : Str) = some (.ref x) := rev_look (by rw [hkeys]; exact T.nodup) (by simp)
  have kself : (callEnv fd s.heap.objs.size fI).kindOf "self" = some .local := (sloc "self" (by simp)).1
  obtain ⟨mb, hmb, hboot⟩ := MB.blt
  have hcl : clsIn K C = some { name := nm, bases := bs, mro := .ref C :: bm, ns := N, qualname := q, hasDict := true, slotNames := sn, subclasses := sub, abstract := ab, collection := col, hasDel := false } := by unfold clsIn; rw [hC] <;> rfl
  obtain ⟨ar, hars, har⟩ : ∃ ar, (params.posonlyargs ++ params.args).head? = some ar ∧ ar.arg = ("self" : Str) := by
    rw [q1, List.nil_append]
    cases e : params.args with
    | nil => rw [e] at q5; cases q5
    | cons a l => rw [e] at q5; exact ⟨a, rfl, (List.cons.inj q5).1⟩
  refine ks_wpAt_execs_cons (ks_wpAt_Expr_any (ks_wpAt_MethodCall ?_ (gx_form rfl hline)) (by show (scope.kind == .module && _) = false; rw [sk]; rfl))
  refine ks_wpAt_super_base (f := fI) (cc := cda) (fd := fd) (ar := ar) ssup scls (by decide) rfl (K1 _ _ ho) rfl hars rfl (K1 _ _ hcode) rfl hvs hfile T.top ?_
  refine ks_loadName_global sk ssup (loadGlobal_builtin (MB.glob.keeps B1) (mg_none_of KB MB.glob T.sup) (hmb.keeps B1) ((hboot _ (by decide)).trans PyProof.Rows.Boot.«super») ⟨rfl, ?_⟩)
  refine wpAny_loadName_free sk scls rfl ⟨_, K1 _ _ hcell, rfl⟩ ?_
  rw [har]
  refine wpAny_loadName_local sk kself hns mself ?_
  refine ks_wpAny_isType_cls (K1 _ _ hC) rfl ⟨rfl, ?_⟩
  refine ks_wpAny_call_super (K1 _ _ hC) rfl hx1 rfl (fun c e => by cases e) (looks_mroIn K1 T.mC) fun h2 e2 k2 => ?_
  have K2 : K.In h2 := K1.keeps k2
  have hx2 := k2 _ _ hx1
  have I2 : InstAt h2 x (excO C t0) C none := ⟨hx2, rfl, rfl, trivial⟩
  have hxC : x ≠ C := fun z => by rw [z, hC] at hnx; cases hnx
  have LM : Looks (model prog w) h2 (mroOf (.ref C)) (.ref C :: bm) := fun A Q E s k q => wpAny_bind ((looks_clsIn K2 hcl) A _ E s k (wpAny_pure q))
  refine kxs_getMethod T.KF e2 (looks_opaque K2 T.op) LM (by simp) K2 hal (I2.type.andThen (looks_mroIn K2 T.mB)) hxC (by decide) ?_
  have hu : (h2.push (kxs_mw i x)).get? h2.objs.size = some (kxs_mw i x) := Heap.get?_push_at rfl rfl
  refine kxs_callWith (i := i) (x := x) rfl (evalArgs_plain ?_)
  refine spliced_more (wpAny_Constant_str (spliced_none ?_)) rfl
  refine ⟨hu, ?_⟩
  have k3 : ∀ b o, h2.get? b = some o → (h2.push (kxs_mw i x)).get? b = some o := fun b o e => Heap.get?_push_of_some _ e
  have K3 : K.In (h2.push (kxs_mw i x)) := K2.keeps k3
  refine gx_mw T.FB (K3 _ _ hC) (k3 _ _ hx2) hu (by rw [sizeLine_eq]; exact (by decide : 1 ≤ 16777216)) fun h4 t1 k4 e4 => ?_
  have K4 : K.In h4 := fun a o e => k4 a o (fun z => by rw [z, hnx] at e; cases e) (K3 a o e)
  have kall : ∀ b o, b ≠ x → s.heap.get? b = some o → h4.get? b = some o := fun b o hb e => k4 b o hb (k3 b o (k2 b o (kk b o e)))
  have ns4 := hns.at (h' := h4) fun o q => k4 _ o hxL (k3 _ o (k2 _ o q))
  have SC : Storable K C { name := nm, bases := bs, mro := .ref C :: bm, ns := N, qualname := q, hasDict := true, slotNames := sn, subclasses := sub, abstract := ab, collection := col, hasDel := false } := by
    refine ⟨hcl, fun self => ?_, ?_, rfl, rfl⟩
    · show refuseLoop self "__setattr__" (.ref C :: bm) = pure ()
      rw [refuseLoop_ref]
      exact excTail_pass self (T.SF.passes self) bm hbm
    · show (Value.ref C :: bm).contains (.type "object") = true
      rw [List.contains_cons, excTail_contains "object" bm hbm, T.SF.hasOwner, Bool.or_true]
  have near : ∀ f ∈ fs, (callEnv fd s.heap.objs.size fI).kindOf f = some .local ∧ (f == ("__debug__" : Str)) = false ∧ findIn K (.ref C) f = some none := fun f hf => ⟨(sloc f (by simp [hf])).1, (sloc f (by simp [hf])).2, T.noN f hf⟩
  have mfs : ∀ p ∈ fs.zip vs, ((("self" : Str) :: fs).zip (Value.ref x :: vs)).reverse.lookup p.1 = some p.2 := fun p hp => rev_look (by rw [hkeys]; exact T.nodup) (by simp [hp])
  cases r with
  | nil =>
    have hne := T.fne
    cases hfs : fs with
    | nil => exact absurd hfs hne
    | cons f fs' => rw [hfs] at hst; simp [storesB] at hst
  | cons st0 r =>
    obtain ⟨a1, a2, a3, a4, f, fs', rfl, hfs, hst2⟩ := storesB_cons hst
    cases hvs2 : vs with
    | nil => rw [hvs2, hfs] at hlen; simp at hlen
    | cons v vs' =>
      obtain ⟨n1, n2, n3⟩ := near f (by rw [hfs]; simp)
      have mf := mfs (f, v) (by rw [hfs, hvs2]; simp)
      refine wpAt_of_wpAny (wpAny_execs_cons (plainObj_wpAny_Assign_Attribute ?_))
      refine gx_name ns4 sk n1 mf n2 (gx_name ns4 sk kself mself (by decide) ?_)
      refine set_plain K4 (ox := excO C t1) (od := none) ⟨e4, rfl, rfl, trivial⟩ T.sa ?_
      refine gx_store0 K4 e4 SC n3 fun h5 t5 dx k5 db dne e5 n5 => ?_
      show wpAny _ _ (execs r _) _ _ _
      have Lt : s.heap.objs.size < h4.objs.size := ns4.lt
      have hLd : s.heap.objs.size ≠ dx := Nat.ne_of_lt (Nat.lt_of_lt_of_le Lt db)
      have Kd : K.lookup dx = none := by
        cases e : K.lookup dx with
        | none => rfl
        | some o => exact absurd (Heap.lt_size (K4 _ _ e)) (Nat.not_lt.mpr db)
      have K5 : K.In h5 := fun a o e => k5 a o (fun z => by rw [z, hnx] at e; cases e) (K4 a o e)
      have hl2 : vs'.length = fs'.length := by rw [hfs, hvs2] at hlen; simpa using hlen
      refine gx_later SC T.sa sk kself mself (Ne.symm dne) hLd Kd r fs' vs' [(f, v)] h5 t5 hst2 hl2.symm (fun y hy => near y (by rw [hfs]; simp [hy])) (fun p hp => mfs p (by rw [hfs, hvs2]; simp [hp])) K5 (ns4.at fun o q => k5 _ o hxL q) e5 n5 (by have := T.small; rw [hfs] at this; simp at this ⊢; omega) fun h6 t6 k6 n6 => ?_
      have hbig : s.heap.objs.size ≤ dx := Nat.le_trans (Nat.le_of_lt Lt) db
      have n7 : h6.Ns1 dx (rd (fs.zip vs).reverse) := by
        rw [hfs, hvs2, List.zip_cons_cons, List.reverse_cons]
        exact n6
      exact go h6 t6 dx t1 (fun b o hb e => k6 b o (Nat.ne_of_lt (Nat.lt_of_lt_of_le (Heap.lt_size e) hbig)) (k5 b o hb (kall b o hb e))) (k6 _ _ (Ne.symm dne) e5) hbig dne n7
end
end Sx
set_option Elab.async false
set_option linter.all false
set_option maxRecDepth 100000
set_option maxHeartbeats 4000000
namespace Sx
open PySem PySem.W PySem.Calls PyProof.Rows PySem.HandSPX
section
variable {prog : Program} {w : World} {A : Around} {K : Frag} {C fI : Addr} {B i newId : String} {bmB : List Value} {fs : List Str} {its : List Value} {mg : Str → Option Value} {base : Heap}
theorem gx_made (T : XTxt prog K C fI B i newId bmB fs its) (MB : L2.Mod K mg base) {s : Shared} {vs : List Value} {R : Result → Shared → Prop} (hlen : vs.length = fs.length)
    (kb : ∀ b o, base.get? b = some o → s.heap.get? b = some o) (hroom : A.depth + 1 < recursionLimit)
    (go : ∀ h2 tk e d, Made s.heap h2 e C d (fs.zip vs).reverse → R (.ok (.ret (.ref e))) { s with heap := h2, toks := tk }) :
    codeAny (model prog w) A (.call (.ref C) ⟨vs, []⟩) R s := by
  obtain ⟨nm, q, N, bs, bm, sn, sub, ab, col, dd, k0, k1, k2, k3, k5, hC, hbm, hal⟩ := T.cls
  have KI : K.In s.heap := MB.kin.keeps kb
  obtain ⟨hp, g, dr, tk, os⟩ := s
  have k : ∀ b o, hp.get? b = some o → ((hp.push (kdv_tup vs)).push (excO C hp.objs.size)).get? b = some o := fun b o e => Heap.get?_push_of_some _ (Heap.get?_push_of_some _ e)
  have hget : ((hp.push (kdv_tup vs)).push (excO C hp.objs.size)).get? (hp.objs.size + 1) = some (excO C hp.objs.size) := by heap_get
  have hbx : base.get? (hp.objs.size + 1) = none := by
    cases e : base.get? (hp.objs.size + 1) with
    | none => rfl
    | some o =>
      have z : hp.get? (hp.objs.size + 1) = some o := kb _ _ e
      exact absurd (Nat.lt_of_succ_lt (Heap.lt_size z)) (Nat.lt_irrefl _)
  have hz : vs.length ≤ sizeLine := by
    have := T.small
    rw [sizeLine_eq]
    omega
  refine call_own T.FB (fun Y => excTail_contains Y bm hbm) (KI _ _ hC) (looks_findIn KI T.iC) (fun self => bind_fn KI self T.tC) hz ?_
  refine gx_init (s := ⟨(hp.push (kdv_tup vs)).push (excO C hp.objs.size), g, dr, tk, os⟩) T MB hlen (fun b o e => k b o (kb b o e)) hget hbx ?_ fun h2 tk2 dx t1 k2 e2 db dne n2 => ?_
  · show A.depth + 1 < recursionLimit
    exact hroom
  · have old : ∀ b o, hp.get? b = some o → h2.get? b = some o := fun b o e => k2 b o (Nat.ne_of_lt (Nat.lt_succ_of_lt (Heap.lt_size e))) (k b o e)
    have zz : hp.objs.size + 1 + 1 ≤ dx := by
      first
        | (simpa only [Heap.size_push] using db)
        | exact db
        | (have q := db; rw [Heap.size_push, Heap.size_push] at q; exact q)
    exact ⟨rfl, go h2 tk2 (hp.objs.size + 1) dx ⟨old, Nat.le_succ _, ⟨t1, e2⟩, Nat.le_trans (Nat.le_trans (Nat.le_succ _) (Nat.le_succ _)) zz, dne, n2⟩⟩
end
theorem rd_look : ∀ {l : List (Str × Value)} {f : Str}, rd l f = l.lookup f
  | [], f => rfl
  | (g, v) :: r, f => by
    unfold rd List.lookup
    by_cases e : f = g
    · subst e
      simp
    · have e2 : (f == g) = false := by simpa using e
      rw [if_neg e, e2]
      exact rd_look
theorem look_rev {l : List (Str × Value)} (h : (l.map (·.1)).Nodup) (f : Str) : l.reverse.lookup f = l.lookup f := by
  cases e : l.lookup f with
  | some v => exact rev_look h (Mi.lookup_mem e)
  | none =>
    cases e2 : l.reverse.lookup f with
    | none => rfl
    | some v =>
      have h2 := Mi.lookup_mem e2
      have h3 := rev_look (l := l.reverse) (by rw [List.map_reverse]; exact (List.reverse_perm _).nodup_iff.mpr h) h2
      rw [List.reverse_reverse, e] at h3
      cases h3
end Sx
namespace Mi
open PySem PySem.Spec PyProof.Rows L2
theorem relO_zip : ∀ {fs : List Str} {vs : List V} {us : List Value} (f : Str), Vals vs us → RelO ((fs.zip vs).lookup f) ((fs.zip us).lookup f)
  | [], vs, us, f, r => trivial
  | g :: fs, [], us, f, r => by cases r; trivial
  | g :: fs, v :: vs, us, f, r => by
    cases r with
    | cons rv rr =>
      simp only [List.zip_cons_cons]
      unfold List.lookup
      cases e : f == g with
      | true => exact rv
      | false => exact relO_zip f rr
section
variable {X : Cx} {C fI : Addr} {B i newId : String} {bmB : List Value} {fs : List Str} {its : List Value} {ta : TA} {a : Expr} {es : List Expr} {x : Str} {p pos : Pos} {n : Nat}
/-- C(a, ..) -/
def tMkX (C : Addr) (fs : List Str) (ta : TA) : L2.St → Hp → XK → Prop := fun σ H Q => ta σ H fun vs H1 => vs.length = fs.length ∧ ∀ d, H1 d = none → Q (.ref C) (some d) (upd H1 d (.xd (fs.zip vs)))
theorem pmk_x (T : Sx.XTxt X.prog X.K C fI B i newId bmB fs its) (hr : RoomM n X.A) (hg : Gl X x) (hm : X.mg x = some (.ref C)) (hdb : (x == ("__debug__" : Str)) = false) (ha : PA X (a :: es) ta)
    (he : starEach (a :: es) X.env = (false, eval a X.env) :: starEach es X.env) (hpl : (backTo pos (starEach es X.env)).any (·.1) = false) :
    PMk X (.Call (.Name x p) (a :: es) [] pos) (tMkX C fs ta) := by
  intro pins s σ H Q I h
  refine wpAny_Call_Name_kw (ld_glob I hg hm ?_ hdb)
  refine PySem.W.callWith_K (h₀ := X.base) I.ok.mod.kin T.kC (thn (ha.run pos pins s σ H _ I h) fun us s1 hh => ?_) he hpl
  obtain ⟨vs, H1, I1, r1, hl, q1⟩ := hh
  refine ⟨I1.kIn, ?_⟩
  show wpAny _ _ (call (.ref C) us) _ _ _
  have hl2 : us.length = fs.length := by rw [← r1.length]; exact hl
  obtain ⟨hp, g, dr, tk, os⟩ := s1
  refine wpAny_call (Sx.gx_made T I1.ok.mod hl2 I1.bk (by have := hr.dp; omega) fun h' tk' e d M => ?_)
  show MkP X pins σ Q (.ref e) ⟨h', g, dr, tk', os⟩
  obtain ⟨t1, hoe⟩ := M.obj
  have hns := M.ns
  obtain ⟨G', g1, g2⟩ := restrict h' fun b => decide (b ≠ e)
  have gk : ∀ b, b ≠ e → G'.get? b = h'.get? b := fun b hb => g1 b (decide_eq_true hb)
  have ge : G'.get? e = none := g2 e (by simp)
  have old : ∀ b o, hp.get? b = some o → G'.get? b = some o := fun b o q => (gk b (Nat.ne_of_lt (Nat.lt_of_lt_of_le (Heap.lt_size q) M.new))).trans (M.keep b o q)
  have nodup : ((fs.zip us).map (·.1)).Nodup := by
    rw [Sx.zip_keys hl2]
    exact (List.nodup_cons.mp T.nodup).2
  have ob : ObjOk X.prog X.w (upd H1 d (.xd (fs.zip vs))) G' d (.xd (fs.zip vs)) :=
    ⟨_, hns.at (fun o q => (gk d M.dne).trans q), fun f => by rw [Sx.rd_look, Sx.look_rev nodup]; exact relO_zip f r1⟩
  have J : Inv X pins σ (upd H1 d (.xd (fs.zip vs))) ⟨G', g, dr, tk', os⟩ := I1.laid (t' := tk') old M.dbig ob
  refine ⟨e, _, _, ⟨G', g, dr, tk', os⟩, _, .ref C, some d, rfl, J, fun b o q => ?_, ge, hoe, ⟨rfl, rfl⟩, rfl, rfl, ?_, rfl, I1.bare, raises_own T.exC T.tyC, q1 d (I1.hok.fresh M.dbig)⟩
  · by_cases hb : b = e
    · have q' : G'.get? b = some o := q
      rw [hb, ge] at q'; cases q'
    · exact (gk b hb).symm.trans q
  · rw [upd_ne (Ne.symm M.dne)]
    exact I1.hok.fresh M.new
end
end Mi
set_option Elab.async false
set_option linter.all false
set_option maxRecDepth 100000
set_option maxHeartbeats 4000000
namespace Mi
open PySem PySem.Spec PyProof.Rows L2
/-- the expression of an except clause: it names these classes -/
inductive HNames (X : Cx) : Expr → List Value → Prop where
  | one {x : Str} {p : Pos} {c : Value} : Names X x c → HNames X (.Name x p) [c]
  | two {x1 x2 : Str} {p1 p2 p : Pos} {k : Nat} {c1 c2 : Value} : Names X x1 c1 → Names X x2 c2 → HNames X (.Tuple [.Name x1 p1, .Name x2 p2] k p) [c1, c2]
  | three {x1 x2 x3 : Str} {p1 p2 p3 p : Pos} {k : Nat} {c1 c2 c3 : Value} : Names X x1 c1 → Names X x2 c2 → Names X x3 c3 → HNames X (.Tuple [.Name x1 p1, .Name x2 p2, .Name x3 p3] k p) [c1, c2, c3]
theorem exm_any_one {K : PySem.W.Frag} {cls c : Value} {b : Bool} (h : PySem.W.exmAny K cls [c] = some b) : PySem.W.exmOne K cls c = some b := by
  unfold PySem.W.exmAny at h
  cases e : PySem.W.exmOne K cls c with
  | none => rw [e] at h; cases h
  | some x =>
    rw [e] at h
    unfold PySem.W.exmAny at h
    simp only [Option.some.injEq, Bool.or_false] at h
    rw [h]
section
variable {X : Cx} {pins : List (Addr × Obj)} {σ : L2.St} {H : Hp} {s : Shared} {a : Addr} {oe : Obj} {pn : List (Addr × Obj)} {Q : Value → Shared → Prop} {E : Value → Shared → Prop}
theorem name_test {x : Str} {p : Pos} {c : Value} (h : Names X x c) (S : Inv (X.suite a pn) pins σ H s) (q : Q c s) : wpAny (model X.prog X.w) (X.A.mark (some (.ref a))) (eval (.Name x p) X.env) Q E s := by
  obtain ⟨hg, hdbg, hm | ⟨hm, hv, hnn⟩⟩ := h
  · exact ld_glob (X := X.suite a pn) S hg hm q hdbg
  · exact ld_blt (X := X.suite a pn) S hg hm hv q hnn hdbg
/-- the classes of a clause are looked at -/
theorem hn_test {T : Expr} {cs : List Value} (hn : HNames X T cs) (S : Inv (X.suite a pn) pins σ H s)
    (go : ∀ c h1 t1, (∀ b o, s.heap.get? b = some o → h1.get? b = some o) → (∀ (M : Model) cls b, PySem.W.exmAny X.K cls cs = some b → PySem.W.Looks M h1 (typeOf (.ref a)) cls → PySem.W.Looks M h1 (excMatches (.ref a) c) b) → Q c { s with heap := h1, toks := t1 }) :
    wpAny (model X.prog X.w) (X.A.mark (some (.ref a))) (eval T X.env) Q E s := by
  have KI := S.kIn
  cases hn with
  | one h1 => exact name_test h1 S (go _ _ _ (fun _ _ e => e) fun M cls b e lt => PySem.W.exm_one KI lt (exm_any_one e))
  | two h1 h2 =>
    refine wpAny_Tuple_spliced (spliced_more (name_test h1 S (spliced_more (name_test h2 S (spliced_none ⟨by rw [sizeLine_eq]; exact (by decide : 2 ≤ 16777216), ?_⟩)) rfl)) rfl)
    exact go _ _ s.toks (fun b o e => Heap.get?_push_of_some _ e) fun M cls b e lt => PySem.W.exm_tup2 (KI.keeps fun b o e => Heap.get?_push_of_some _ e) lt (Heap.get?_push_at rfl rfl) e
  | three h1 h2 h3 =>
    refine wpAny_Tuple_spliced (spliced_more (name_test h1 S (spliced_more (name_test h2 S (spliced_more (name_test h3 S (spliced_none ⟨by rw [sizeLine_eq]; exact (by decide : 3 ≤ 16777216), ?_⟩)) rfl)) rfl)) rfl)
    exact go _ _ s.toks (fun b o e => Heap.get?_push_of_some _ e) fun M cls b e lt => PySem.W.exm_tup3 (KI.keeps fun b o e => Heap.get?_push_of_some _ e) lt (Heap.get?_push_at rfl rfl) e
end
/-- more objects -/
theorem fly_grow {B h h1 : Heap} {l : List PySem.Env} {a : Addr} {Z : Obj → Prop} (f : HandSPX.FlyingZ B l a Z h) (k : ∀ b o, h.get? b = some o → h1.get? b = some o) : HandSPX.FlyingZ B l a Z h1 := by
  obtain ⟨f1, f2, f3, oe, vs, T, oT, ts, g1, g2, g3, g4, g5, g6, g7, g8, g9⟩ := f
  exact ⟨fun b o e => k b o (f1 b o e), f2, f3.of_keeps (fun b o e _ => ⟨o, k b o e, rfl⟩), oe, vs, T, oT, ts, k _ _ g1, g2, g3, g4, g5, g6, k _ _ g7, g8, g9⟩
/-- an object that nobody tracks is tracked from now on -/
theorem adopt {X : Cx} {pins : List (Addr × Obj)} {σ : L2.St} {H : Hp} {sI s : Shared} {a : Addr} {oe : Obj} {o : HO} (I : Inv X pins σ H sI) (J : Inv X pins σ H s) (new : sI.heap.get? a = none) (he : s.heap.get? a = some oe) (hc : ∀ v, oe.data ≠ .cell v) (nH : H a = none)
    (nL : a ≠ X.env.locals) (ok : ObjOk X.prog X.w (upd H a o) s.heap a o) : Inv X pins σ (upd H a o) s := by
  have n0 : ∀ b o2, X.s_0.heap.get? b = some o2 → b ∉ X.ex → b ≠ a := fun b o2 e hx z => by
    obtain ⟨o3, e3⟩ := I.base.there b o2 e hx
    rw [z, new] at e3; cases e3
  refine ⟨J.ok, J.os, J.bare, ⟨J.base.keep, J.base.slot, fun b o2 e n hx => ?_, J.base.there, fun b xs e => ?_, fun b o2 u e => ?_, fun b ps e => ?_⟩, J.loc, J.cell, ?_, fun x c e => ?_, fun p hp => ?_, fun b ob e => ?_, J.len⟩
  · rw [upd_ne (n0 b o2 e hx)]
    exact J.base.free b o2 e n hx
  · have z := J.base.tups b xs e
    rw [upd_ne (ne_of_none z nH)]
    exact z
  · have z := J.base.frzs b o2 u e
    rw [upd_ne (ne_of_none z nH)]
    exact z
  · obtain ⟨more, z⟩ := J.base.tbls b ps e
    exact ⟨more, by rw [upd_ne (ne_of_none z nH)]; exact z⟩
  · rw [upd_ne (Ne.symm nL)]
    exact J.free
  · have : c ≠ a := fun z => by
      obtain ⟨v, hv⟩ := J.cell x c e
      obtain ⟨oc, h1, h2⟩ := hv
      rw [z, he] at h1
      cases h1
      exact hc _ h2
    rw [upd_ne this]
    exact J.freeC x c e
  · obtain ⟨e1, e2, e3, e4, e5⟩ := J.pin p hp
    have : p.1 ≠ a := fun z => by
      have := (I.pin p hp).1
      rw [z, new] at this; cases this
    exact ⟨e1, by rw [upd_ne this]; exact e2, e3, e4, e5⟩
  · by_cases hb : b = a
    · subst hb
      rw [upd_same] at e
      cases e
      exact ok
    · rw [upd_ne hb] at e
      refine (J.hok b ob e).stay (fun c v _ z => z) (fun c z => ?_) fun c xs z => ?_
      · rw [upd_ne (ne_of_none z nH)]; exact z
      · rw [upd_ne (ne_of_none z nH)]; exact z
/-- what is wished of an exception of the body -/
def wCatch (K : PySem.W.Frag) (cs : List Value) (yes : Addr → Value → Option Addr → L2.St → Hp → Prop) (Wout : WX) : WX := fun cls d σ H =>
  ∃ b, PySem.W.exmAny K cls cs = some b ∧ (b = true → ∀ a, H a = none → yes a cls d σ H) ∧ (b = false → Wout cls d σ H)
section
variable {X : Cx} {T : Expr} {cs : List Value} {nm : Option Str} {body suite : List Stmt} {b0 : Stmt} {pos pos' : Pos} {tb : WX → TS} {Wout : WX} {yes : Ends → Addr → Value → Option Addr → L2.St → Hp → Prop}
/-- try: .. except T ..: suite, the suite worked out by hand -/
theorem ps_catch (hs : X.stack = X.env :: X.outer) (hf : X.env.frame = some X.env.locals) (hn : HNames X T cs) (tk : Takes X Wout)
    (hb : ∀ (W : WX) (pn : List (Addr × Obj)) (xe : Value → Shared → Prop), Takes (X.tr pn xe) W → PassesOwn (model X.prog X.w) X.A X.env xe → PSs (X.tr pn xe) body (tb W))
    (hy : ∀ (pins : List (Addr × Obj)) (D : Ends) (σ : L2.St) (H : Hp) (sI s : Shared) (a : Addr) (oe : Obj) (cls : Value) (d : Option Addr) (B : Heap), Inv X pins σ H sI → sI.heap.get? a = none → s.heap.get? a = some oe → Zc cls d oe → (∃ vs, oe.data = .fields vs) → H a = none → a ≠ X.env.locals → a ∉ X.fs →
      HandSPX.FlyingZ B (X.env :: X.outer) a (Zc cls d) s.heap → (∀ s', B.StaysIn s'.heap → s.heap.UpToSlots s'.heap → s'.os = s.os → s'.gens = s.gens → Inv X pins σ H s') → yes D a cls d σ H →
      codeAny (model X.prog X.w) (X.A.mark (some (.ref a))) (.handlers (.ref a) [.ExceptHandler none nm (b0 :: suite) pos'] X.env) (fun r s₂ => match r with
        | .ok f => (match nm with
          | none => SP X pins D f s₂
          | some n => wpAny (model X.prog X.w) X.A (do bindName X.env n .none; unbindBehindTheSuite X.env n pos') (fun _ s₃ => SP X pins D f s₃) X.xe s₂)
        | .error x => cameBackBy (model X.prog X.w) X.A X.env X.xe x s₂) s) :
    PS X (.Try body [.ExceptHandler (some T) nm (b0 :: suite) pos'] [] [] pos) (fun D σ H => tb (wCatch X.K cs (yes D) Wout) D σ H) := by
  refine ⟨fun pins s σ H D I h => ?_⟩
  have ok := I.ok
  have hfr : X.A.frames = some (X.env :: X.outer) := by rw [ok.frames, hs]
  refine wpAny_Try_except ?_
  refine wpAny_mono ((hb (wCatch X.K cs (yes D) Wout) (X.pn ++ pins) (fun e s₁ => wpAny (model X.prog X.w) X.A (noteFrame e X.env) (fun _ s₂ => wpAny (model X.prog X.w) X.A (setFlight e none) (fun _ s₃ =>
    wpAny (model X.prog X.w) X.A (handleBy e X.env [.ExceptHandler (some T) nm (b0 :: suite) pos']) (SP X pins D) X.xe s₃) X.xe s₂) X.xe s₁) (fun u s' xx => ?_) PassesOwn.looking).run [] s σ H D (I.toTry _) h) (fun f s1 hsp => ?_) (fun e s1 he => he)
  · obtain ⟨a, B, sI, pins', σ', H', cls, d, rfl, JJ, nb, up, sky, na, os, ag, b, hb1, hyes, hno⟩ := xx
    have J : Inv X pins σ' H' sI := JJ.ofTry ok
    have sky' : Sky B (X.env :: X.outer) a (Zc cls d) X.env.locals s'.heap := by rw [← hs]; exact sky
    show wpAny (model X.prog X.w) X.A (noteFrame (.ref a) X.env) _ _ _
    refine Sky.land Zc.steady hfr hf sky' fun h3 fl3 up3 => ?_
    have J3 : Inv X pins σ' H' { s' with heap := h3 } := J.landed nb fl3.1 (up.trans up3) os ag
    obtain ⟨oe3, vs3, he3, hz3, hd3⟩ := fl3.there
    have notFr : ∀ {h : Heap} {o : Obj} {vs : Array Value}, h.FunFrames B (X.env :: X.outer) → h.get? a = some o → o.data = .fields vs → a ∉ frs (X.env :: X.outer) := fun {h o vs} ff e dd hm => by
      obtain ⟨_, o', e', hnf⟩ := ff.mem hm
      rw [e] at e'; cases e'
      exact hnf _ dd
    have nfr := notFr fl3.2.2.1 he3 hd3
    have nL : a ≠ X.env.locals := fun z => nfr (List.mem_filterMap.mpr ⟨X.env, List.mem_cons_self, by rw [hf, z]⟩)
    have nF : a ∉ X.fs := fun hm => by
      obtain ⟨e, he, q⟩ := List.mem_filterMap.mp hm
      exact nfr (List.mem_filterMap.mpr ⟨e, List.mem_cons_of_mem _ he, q⟩)
    have S3 := J3.suite he3 hd3 na nL nF
    have nIn : sI.heap.get? a = none := by
      cases q : sI.heap.get? a with
      | none => rfl
      | some o =>
        have z := nb a o q (by rw [hs]; exact nfr)
        have z2 := fl3.2.1
        rw [z] at z2
        cases z2
    refine wpAny_handleBy_cons (codeAny_handlers_test ?_) (by intro q; cases q)
    refine hn_test hn S3 fun c h5 t5 k5 test => ?_
    have LT : PySem.W.Looks (model X.prog X.w) h5 (typeOf (.ref a)) cls := fun A Q E s k q => wpAny_typeOf_ref (k _ _ (k5 _ _ he3)) (by rw [hz3.1]; exact q)
    have LM := test (model X.prog X.w) cls b hb1 LT
    have fl5 : HandSPX.FlyingZ B (X.env :: X.outer) a (Zc cls d) h5 := fly_grow fl3 k5
    have up5 : sI.heap.UpToSlots h5 := (up.trans up3).trans fun b o e _ => ⟨o.slots, k5 b o e⟩
    refine LM.here ?_
    cases b with
    | true =>
      refine codeAny_mono (hy pins D σ' H' sI { s' with heap := h5, toks := t5 } a oe3 cls d B J nIn (k5 _ _ he3) hz3 ⟨_, hd3⟩ na nL nF fl5 (fun s6 st6 up6 os6 ag6 => J.landed nb st6 (up5.trans up6) (os6.trans os) (by rw [ag6]; exact ag)) (hyes rfl a na)) fun r s2 hr => ?_
      cases nm <;> exact hr
    | false =>
      show wpAny _ X.A (handleBy (.ref a) X.env []) _ _ _
      refine wpAny_handleBy_nil ?_
      obtain ⟨k1, k2, k3, oe, vs, T, oT, ts', he, hz, hd, h1, hr⟩ := id fl5
      unfold PySem.passOn
      refine wpAny_bind (wpAny_field he hd h1 ?_)
      rw [if_neg (show ¬ ((Value.ref T == Value.none) = true) from by simp)]
      have fin : wpAny (model X.prog X.w) X.A (setFlight (.ref a) X.env.frame) (fun _ s4 => wpAny (model X.prog X.w) X.A (throw (.ref a) : Sem Flow) (SP X pins D) X.xe s4) X.xe { s' with heap := h5, toks := t5 } := by
        rw [hf]
        refine HandSPX.setFlight_upZ fl5 fun h4 hh4 up4 => wpAny_throw (tk _ _ ?_)
        exact ⟨a, B, sI, pins, σ', H', cls, d, rfl, J, nb, up5.trans up4, .inr (.inr (by rw [hs]; exact hh4)), na, os, ag, hno rfl⟩
      first
        | exact wpAny_bind (wpAny_pure (wpAny_bind fin))
        | exact wpAny_bind fin
  · cases f with
    | next =>
      obtain ⟨σ1, H1, J1, q1⟩ := hsp
      exact wpAny_execs_nil ⟨σ1, H1, J1.ofTry ok, q1⟩
    | brk =>
      obtain ⟨σ1, H1, J1, q1⟩ := hsp
      exact ⟨σ1, H1, J1.ofTry ok, q1⟩
    | cont =>
      obtain ⟨σ1, H1, J1, q1⟩ := hsp
      exact ⟨σ1, H1, J1.ofTry ok, q1⟩
    | ret u =>
      obtain ⟨v1, σ1, H1, J1, r1, q1⟩ := hsp
      exact ⟨v1, σ1, H1, J1.ofTry ok, r1, q1⟩
end
end Mi
set_option Elab.async false
set_option linter.all false
set_option maxRecDepth 100000
set_option maxHeartbeats 4000000
namespace Mi
open PySem PySem.Spec PyProof.Rows L2
/-- what the exception classes of a program hold -/
structure XOk (prog : Program) (K : PySem.W.Frag) (L : Lk) (P : Prog) : Prop where
  get : XGet K L P
  made : ∀ c ps dfl, P.exc c = some (ps, dfl) → ∃ fI B i newId bmB its, Sx.XTxt prog K (L.ca c) fI B i newId bmB ps its
  mat : ∀ c k, (P.exc c).isSome = true → P.xk k = true → PySem.W.exmOne K (.ref (L.ca c)) (.ref (L.ca k)) = some (P.sub c k)
theorem XOk.mats {prog : Program} {K : PySem.W.Frag} {L : Lk} {P : Prog} (x : XOk prog K L P) {c : Nat} (hc : (P.exc c).isSome = true) : ∀ {cs : List Nat}, cs.all P.xk = true → PySem.W.exmAny K (.ref (L.ca c)) (cs.map fun k => .ref (L.ca k)) = some (cs.any fun k => P.sub c k)
  | [], _ => rfl
  | k :: cs, h => by
    simp only [List.all_cons, Bool.and_eq_true] at h
    simp only [List.map_cons, List.any_cons]
    unfold PySem.W.exmAny
    rw [x.mat c k hc h.1, x.mats hc h.2]
theorem bind_run {α β : Type} {m : M α} {f : α → M β} {S : Store} : (m >>= f) S = (match m S with
    | .ok a S' => f a S'
    | .exc e S' => .exc e S'
    | .bad => .bad) := rfl
section
variable {X : Cx} {L : Lk} {W : WX} {P : Prog} {Φ : Call} {n : Nat} {pos pos2 p : Pos}
/-- raise C(a, ..) -/
theorem psm_raise {c : Nat} {x : Str} {a : Expr} {es : List Expr} {ees : List E} (hK : X.K = L.K) (xo : XOk X.prog X.K L P) (hc : X.calm = true) (hr : RoomM n X.A) (tk : Takes X W) (hg : Gl X x) (hm : X.mg x = some (.ref (L.ca c))) (hdb : (x == ("__debug__" : Str)) = false)
    (ha : PA X (a :: es) (tA L W (evs P Φ ees))) (he : starEach (a :: es) X.env = (false, eval a X.env) :: starEach es X.env) (hpl : (backTo pos (starEach es X.env)).any (·.1) = false) :
    PS X (.Raise (some (.Call (.Name x p) (a :: es) [] pos)) none pos2) (tS L W (ex P Φ (.raise (.mkx c ees [] [])))) := by
  cases hex0 : P.exc c with
  | none =>
    refine ⟨fun pins s σ H D I ⟨ρ, S, η, sr, er, po⟩ => ?_⟩
    unfold ex thenX ev at po
    rw [hex0] at po
    exact (show False from po).elim
  | some pd =>
  have hex : ∃ pd, P.exc c = some pd := ⟨pd, hex0⟩
  obtain ⟨⟨ps, dfl⟩, hex⟩ := hex
  obtain ⟨fI, B, i, newId, bmB, its, T⟩ := xo.made c ps dfl hex
  have hfn := (xo.get.get c ps dfl hex).1
  refine (ps_raise hc tk (pmk_x T hr hg hm hdb ha he hpl)).imp fun D σ H ⟨ρ, S, η, sr, er, po⟩ => ?_
  unfold ex at po
  have po2 : PostX L W D ρ H (thenX (evs P Φ ees η) η S fun vs S1 => if vs.length = ps.length then .exc (.exc c vs) η S1 else .bad) := by
    unfold thenX at po ⊢
    have e : ev P Φ (.mkx c ees [] []) η S = (match evs P Φ ees η S with
      | .ok vs S1 => if vs.length = ps.length then .ok (.exc c vs) S1 else .bad
      | .exc e S1 => .exc e S1
      | .bad => .bad) := by
      unfold ev
      rw [bind_run]
      have hg : grd (P.exc c).isSome S = .ok () S := by unfold grd; rw [hex]; rfl
      rw [hg]
      simp only
      rw [bind_run]
      cases evs P Φ ees η S with
      | ok vs S1 =>
        simp only
        rw [bind_run]
        unfold evs
        show mkxM P c vs [] [] S1 = _
        unfold mkxM
        rw [hex]
        simp only [and_true]
      | _ => rfl
    rw [e] at po
    cases q : evs P Φ ees η S with
    | ok vs S1 =>
      rw [q] at po
      simp only at po ⊢
      by_cases hl : vs.length = ps.length
      · rw [if_pos hl] at po ⊢
        exact po
      · rw [if_neg hl] at po ⊢
        exact po
    | exc e S1 => rw [q] at po; exact po
    | bad => rw [q] at po; exact po
  refine firstX sr er po2 fun vs H1 ⟨ρ1, S1, ds, x1, s1, r1, p1⟩ => ?_
  dsimp only at p1
  have hl : ds.length = ps.length := by
    by_cases hl : ds.length = ps.length
    · exact hl
    · rw [if_neg hl] at p1; exact (show False from p1).elim
  rw [if_pos hl] at p1
  refine ⟨by rw [← r1.length]; exact hl, fun d hd => ?_⟩
  have hx := s1.ext_new (o := .xd (ps.zip vs)) hd
  refine p1 ρ1 _ σ (.ref (L.ca c)) d hx (s1.new hd) ((er.mono x1).mono hx) ⟨c, ds, vs, rfl, rfl, by rw [hfn]; exact upd_same, s1.notlive hd, by rw [hfn, ← r1.length]; exact hl, RDs.mono hx _ _ r1⟩
/-- the ends of a suite whose name goes -/
def endsAs (i : Nat) (D : Ends) : Ends := { nx := fun σ H => D.nx (σ.set i none) H, rt := D.rt, bk := fun σ H => D.bk (σ.set i none) H, ct := fun σ H => D.ct (σ.set i none) H }
abbrev Wn : WX := fun _ _ _ _ => False
/-- the suite of an except clause -/
theorem suite0 {pins : List (Addr × Obj)} {σ : L2.St} {H : Hp} {s : Shared} (I : Inv X pins σ H s) (a : Addr) : Inv (X.suite a (X.pn ++ pins)) [] σ H s :=
  ⟨I.ok.suite _ _, I.os, I.bare, I.base, I.loc, I.cell, I.free, I.freeC, fun p hp => by rw [List.append_nil] at hp; exact I.pin p hp, I.hok, I.len⟩
theorem unsuite0 {pins : List (Addr × Obj)} {σ : L2.St} {H : Hp} {s : Shared} {a : Addr} (I : Inv (X.suite a (X.pn ++ pins)) [] σ H s) (ok : X.Ok) : Inv X pins σ H s :=
  ⟨ok, I.os, I.bare, I.base, I.loc, I.cell, I.free, I.freeC, fun p hp => I.pin p (by rw [List.append_nil]; exact hp), I.hok, I.len⟩
theorem exAt_ok {Pg : Program} {w : World} {H : Hp} {h : Heap} {a C dx : Addr} {oe : Obj} {vs : Array Value} (he : h.get? a = some oe) (h1 : oe.cls = .ref C) (h2 : oe.dict = some dx) (h3 : oe.data = .fields vs) : ObjOk Pg w H h a (exAt a C dx) :=
  ⟨⟨oe, vs, he, h1, h2, h3⟩, ⟨_, he⟩, fun _ _ z k => by
    obtain ⟨o, v, e1, e2, e3, e4⟩ := z
    exact ⟨o, v, k _ e1, e2, e3, e4⟩⟩
theorem psm_try_as {T : Expr} {cs : List Nat} {i : Nat} {nm : Str} {body suite : List Stmt} {b0 : Stmt} {b h : List St} {pos' : Pos} (hK : X.K = L.K) (xo : XOk X.prog X.K L P) (hs : X.stack = X.env :: X.outer) (hf : X.env.frame = some X.env.locals)
    (hn : HNames X T (cs.map fun k => .ref (L.ca k))) (tk : Takes X W) (nd : X.N.Nodup) (hi : X.N[i]? = some nm) (hl : X.env.kindOf nm = some .local)
    (hb : ∀ (W : WX) (pn : List (Addr × Obj)) (xe : Value → Shared → Prop), Takes (X.tr pn xe) W → PassesOwn (model X.prog X.w) X.A X.env xe → PSs (X.tr pn xe) body (tS L W (exs P Φ b)))
    (hsu : ∀ (a : Addr) (pn : List (Addr × Obj)), PSs (X.suite a pn) (b0 :: suite) (tS L Wn (exs P Φ h))) (hno : ∀ η S e η' S', exs P Φ h η S ≠ .exc e η' S') :
    PS X (.Try body [.ExceptHandler (some T) (some nm) (b0 :: suite) pos'] [] [] pos) (tS L W (ex P Φ (.try_ b cs (some i) h))) := by
  refine (ps_catch (yes := fun D a cls d σ H => ∃ C dx, cls = .ref C ∧ d = some dx ∧ tS L Wn (exs P Φ h) (endsAs i D) (σ.set i (some (.ref a))) (upd H a (exAt a C dx))) (tb := fun W => tS L W (exs P Φ b)) hs hf hn tk hb ?_).imp fun D σ H ⟨ρ, S, η, sr, er, po⟩ => ?_
  · rintro pins D σ H sI s a oe cls d B I new he hz hdat na nL nF fl land ⟨C, dx, rfl, rfl, hS⟩
    have ok := I.ok
    refine codeAny_handlers_suite_as ?_
    refine HandSPX.lands_againZ fl fun h4 fl4 up4 => ?_
    have J4 : Inv X pins σ H { s with heap := h4 } := land _ fl4.1 up4 rfl rfl
    obtain ⟨oe4, vs4, he4, hz4, hd4⟩ := fl4.there
    have JA := adopt (o := exAt a C dx) I J4 new he4 (fun v z => by rw [hd4] at z; cases z) na nL (exAt_ok he4 hz4.1 hz4.2 hd4)
    refine store_ok (X := X.suite a (X.pn ++ pins)) (v := .ref a) (suite0 JA a) nd hi (.inl hl) rfl (fun s5 S5 => ?_) (.inr hl)
    refine wpAny_mono ((hsu a (X.pn ++ pins)).run [] s5 _ _ (endsAs i D) S5 hS) (fun f s6 hsp => ?_) (fun _ _ z => False.elim z)
    have last : ∀ {σ6 : L2.St} {H6 : Hp} {Q : Shared → Prop}, Inv (X.suite a (X.pn ++ pins)) [] σ6 H6 s6 → (∀ s7, Inv X pins (σ6.set i none) H6 s7 → Q s7) →
        wpAny (model X.prog X.w) X.A (do bindName X.env nm .none; unbindBehindTheSuite X.env nm pos') (fun _ s7 => Q s7) X.xe s6 := fun {σ6 H6 Q} S6 hq => gone_ok (unsuite0 S6 ok) nd hi hl hq
    cases f with
    | next =>
      obtain ⟨σ6, H6, S6, q6⟩ := hsp
      exact last S6 fun s7 J7 => ⟨_, _, J7, q6⟩
    | brk =>
      obtain ⟨σ6, H6, S6, q6⟩ := hsp
      exact last S6 fun s7 J7 => ⟨_, _, J7, q6⟩
    | cont =>
      obtain ⟨σ6, H6, S6, q6⟩ := hsp
      exact last S6 fun s7 J7 => ⟨_, _, J7, q6⟩
    | ret u =>
      obtain ⟨v6, σ6, H6, S6, r6, q6⟩ := hsp
      exact last S6 fun s7 J7 => ⟨_, _, _, J7, r6, q6⟩
  · refine ⟨ρ, S, η, sr, er, ?_⟩
    unfold ex at po
    cases hx : cs.all P.xk with
    | false => rw [hx] at po; exact (show False from po).elim
    | true =>
      rw [hx] at po
      simp only [if_true] at po
      cases q : exs P Φ b η S with
      | bad => rw [q] at po; exact po
      | fin f η1 S1 => rw [q] at po; exact po
      | exc e η1 S1 =>
        rw [q] at po
        rintro ρ1 H1 σ1 cls dx x1 s1 e1 ⟨c, fs, vs, rfl, rfl, r1, r2, r3, r4⟩
        simp only at po
        cases hex : (P.exc c).isSome with
        | false => rw [hex] at po; exact (show False from po).elim
        | true =>
          rw [hex] at po
          simp only [if_true] at po
          refine ⟨_, by rw [hK] at *; exact xo.mats hex hx, fun hany a na => ?_, fun hany => ?_⟩
          · rw [hany] at po
            simp only [if_true] at po
            by_cases hlt : i < η1.length
            · rw [if_pos hlt] at po
              have hxn := s1.ext_new (o := exAt a (L.ca c) dx) na
              have hdx : dx ≠ a := fun z => by rw [z, na] at r1; cases r1
              refine ⟨_, _, rfl, rfl, ρ1, S1, η1.set i (some (.exc c fs)), s1.new na, ?_, ?_⟩
              · refine (e1.mono hxn).set ?_ i
                simp only [RD]
                exact ⟨a, dx, vs, rfl, upd_same, s1.notlive na, by rw [upd_ne hdx]; exact r1, r2, r3, RDs.mono hxn _ _ r4⟩
              · cases q2 : exs P Φ h (η1.set i (some (.exc c fs))) S1 with
                | bad => rw [q2] at po; exact po
                | exc e2 η2 S2 => exact absurd q2 (hno _ _ _ _ _)
                | fin f η2 S2 =>
                  rw [q2] at po
                  intro ρ2 H2 σ2 x2 s2 e2
                  have z := po ρ2 H2 (σ2.set i none) ((x1.trans hxn).trans x2) s2 (e2.clear i none)
                  cases f <;> exact z
            · rw [if_neg hlt] at po; exact (show False from po).elim
          · rw [hany] at po
            simp only [Bool.false_eq_true, if_false] at po
            exact po ρ1 H1 σ1 _ dx x1 s1 e1 ⟨c, fs, vs, rfl, rfl, r1, r2, r3, r4⟩
/-- a clause without a name -/
theorem psm_try_no {T : Expr} {cs : List Nat} {body suite : List Stmt} {b0 : Stmt} {b h : List St} {pos' : Pos} (hK : X.K = L.K) (xo : XOk X.prog X.K L P) (hs : X.stack = X.env :: X.outer) (hf : X.env.frame = some X.env.locals)
    (hn : HNames X T (cs.map fun k => .ref (L.ca k))) (tk : Takes X W)
    (hb : ∀ (W : WX) (pn : List (Addr × Obj)) (xe : Value → Shared → Prop), Takes (X.tr pn xe) W → PassesOwn (model X.prog X.w) X.A X.env xe → PSs (X.tr pn xe) body (tS L W (exs P Φ b)))
    (hsu : ∀ (a : Addr) (pn : List (Addr × Obj)), PSs (X.suite a pn) (b0 :: suite) (tS L Wn (exs P Φ h))) (hno : ∀ η S e η' S', exs P Φ h η S ≠ .exc e η' S') :
    PS X (.Try body [.ExceptHandler (some T) none (b0 :: suite) pos'] [] [] pos) (tS L W (ex P Φ (.try_ b cs none h))) := by
  refine (ps_catch (yes := fun D a cls d σ H => tS L Wn (exs P Φ h) D σ H) (tb := fun W => tS L W (exs P Φ b)) hs hf hn tk hb ?_).imp fun D σ H ⟨ρ, S, η, sr, er, po⟩ => ?_
  · rintro pins D σ H sI s a oe cls d B I new he hz hdat na nL nF fl land hS
    have ok := I.ok
    refine codeAny_handlers_suite ?_
    refine HandSPX.lands_againZ fl fun h4 fl4 up4 => ?_
    have J4 : Inv X pins σ H { s with heap := h4 } := land _ fl4.1 up4 rfl rfl
    refine wpAny_mono ((hsu a (X.pn ++ pins)).run [] _ _ _ D (suite0 J4 a) hS) (fun f s6 hsp => ?_) (fun _ _ z => False.elim z)
    cases f with
    | next =>
      obtain ⟨σ6, H6, S6, q6⟩ := hsp
      exact ⟨_, _, unsuite0 S6 ok, q6⟩
    | brk =>
      obtain ⟨σ6, H6, S6, q6⟩ := hsp
      exact ⟨_, _, unsuite0 S6 ok, q6⟩
    | cont =>
      obtain ⟨σ6, H6, S6, q6⟩ := hsp
      exact ⟨_, _, unsuite0 S6 ok, q6⟩
    | ret u =>
      obtain ⟨v6, σ6, H6, S6, r6, q6⟩ := hsp
      exact ⟨_, _, _, unsuite0 S6 ok, r6, q6⟩
  · refine ⟨ρ, S, η, sr, er, ?_⟩
    unfold ex at po
    cases hx : cs.all P.xk with
    | false => rw [hx] at po; exact (show False from po).elim
    | true =>
      rw [hx] at po
      simp only [if_true] at po
      cases q : exs P Φ b η S with
      | bad => rw [q] at po; exact po
      | fin f η1 S1 => rw [q] at po; exact po
      | exc e η1 S1 =>
        rw [q] at po
        rintro ρ1 H1 σ1 cls dx x1 s1 e1 ⟨c, fs, vs, rfl, rfl, r1, r2, r3, r4⟩
        simp only at po
        cases hex : (P.exc c).isSome with
        | false => rw [hex] at po; exact (show False from po).elim
        | true =>
          rw [hex] at po
          simp only [if_true] at po
          refine ⟨_, by rw [hK] at *; exact xo.mats hex hx, fun hany a na => ?_, fun hany => ?_⟩
          · rw [hany] at po
            simp only [if_true] at po
            refine ⟨ρ1, S1, η1, s1, e1, ?_⟩
            cases q2 : exs P Φ h η1 S1 with
            | bad => rw [q2] at po; exact po
            | exc e2 η2 S2 => exact absurd q2 (hno _ _ _ _ _)
            | fin f η2 S2 =>
              rw [q2] at po
              intro ρ2 H2 σ2 x2 s2 e2
              have z := po ρ2 H2 σ2 (x1.trans x2) s2 e2
              cases f <;> exact z
          · rw [hany] at po
            simp only [Bool.false_eq_true, if_false] at po
            exact po ρ1 H1 σ1 _ dx x1 s1 e1 ⟨c, fs, vs, rfl, rfl, r1, r2, r3, r4⟩
end
end Mi
set_option Elab.async false
set_option linter.all false
set_option maxHeartbeats 1000000
namespace Mi
open PySem PySem.Spec PyProof.Rows L2
/-- what is asked of an exception's class -/
structure ExC (K : PySem.W.Frag) (C : Addr) : Prop where
  hcl : (PySem.W.clsIn K C).isSome = true
  hga : PySem.W.findIn K (.ref C) "__getattribute__" = some (some (.builtin "BaseException.__getattribute__"))
  hgt : PySem.W.findIn K (.ref C) "__getattr__" = some none
  hsub : PySem.W.subIn K (.ref C) (.type "BaseException") = some true
  ha : PySem.W.findIn K (.ref C) "__class__" = some (some (.builtin "object.__class__"))
  hm : PySem.W.mroIn K C (.type "object") = some true
structure ObC (K : PySem.W.Frag) (C : Addr) : Prop where
  cl : Cls K C
  ha : PySem.W.findIn K (.ref C) "__class__" = some (some (.builtin "object.__class__"))
  hm : PySem.W.mroIn K C (.type "object") = some true
structure IsK (K : PySem.W.Frag) (L : Lk) (P : Prog) : Prop where
  bi : ∀ t ∈ kinds, ∀ c, P.isc c = true → PySem.W.kitOne K (.type t) (.ref (L.ca c)) = some false
  ob : ∀ k f c, P.init k = some f → P.isc c = true → ObC K (L.ca k) ∧ PySem.W.kitOne K (.ref (L.ca k)) (.ref (L.ca c)) = some (P.sub k c)
  ex : ∀ k c, (P.exc k).isSome = true → P.isc c = true → ExC K (L.ca k) ∧ PySem.W.kitOne K (.ref (L.ca k)) (.ref (L.ca c)) = some (P.sub k c)
  dn : ∀ c, P.isc c = true → PySem.W.specialIn K (.builtin "object.__class__") "__get__" = some (some (.builtin "getset_descriptor.__get__")) ∧ PySem.W.takesIn K (.builtin "object.__class__") = some true
/-- a caught exception as a value -/
def ExV (K : PySem.W.Frag) (H : Hp) (x : V) (t : Value) : Prop := ∃ (a C dx : Addr) (ps : List (Str × V)), x = .ref a ∧ t = .ref C ∧ H a = some (exAt a C dx) ∧ H dx = some (.xd ps) ∧ ExC K C
def rIsC (K : PySem.W.Frag) (C : Addr) : List V → Hp → VK → Prop := fun xs H Q => ∃ (x : V) (t : Value) (b : Bool), xs = [x, .ref C] ∧ (TyX K H x t ∨ ExV K H x t) ∧ (PySem.W.specialIn K (.builtin "object.__class__") "__get__" = some (some (.builtin "getset_descriptor.__get__")) ∧ PySem.W.takesIn K (.builtin "object.__class__") = some true) ∧
  PySem.W.kitOne K t (.ref C) = some b ∧ Q (.bl b) H
section
variable {X : Cx} {L : Lk} {W : WX} {P : Prog} {Φ : Call} {pos p : Pos} {a b : Expr} {ea : E} {ρ : Rho} {H : Hp} {S : Store}
theorem call_isC {C : Addr} : CallR X (.builtin "isinstance") (rIsC X.K C) := by
  intro pins s σ H xs us Q I r h
  obtain ⟨x, t, b, rfl, ty, ⟨dn, tk⟩, e, q⟩ := h
  obtain ⟨u1, u2, rfl, r1, r2⟩ := vals2 r
  obtain rfl : u2 = Value.ref C := r2
  rcases ty with ty | ⟨a, C', dx, ps, rfl, rfl, ha, hd, ec⟩
  · obtain ⟨P, Z, p, hx⟩ := kit_of I r1 ty
    exact PySem.W.kia_one Z I.kIn p e hx fun tk => ⟨.bl b, H, I.tok tk, rfl, q⟩
  · obtain rfl : u1 = Value.ref a := r1
    have okA : ObjOk X.prog X.w H s.heap a (exAt a C' dx) := I.hok a _ ha
    obtain ⟨⟨oe, ws, h1, h2, h3, h4⟩, _⟩ := okA
    have okD : ObjOk X.prog X.w H s.heap dx (.xd ps) := I.hok dx _ hd
    obtain ⟨mA, hns, hr0⟩ := okD
    obtain ⟨od, ho, hlk⟩ := lookIn_ns hns
    have J : PySem.W.InstAt s.heap a oe C' (some od) := ⟨h1, h2, by unfold PySem.W.notCls; rw [h4] <;> rfl, by rw [h3]; exact ho⟩
    exact PySem.W.kia_one (PySem.W.kitx_exc ec.hcl ec.hga ec.hgt ec.hsub ec.ha dn tk ec.hm) I.kIn J e (fun z => nomatch z) fun tk => ⟨.bl b, H, I.tok tk, rfl, q⟩
/-- isinstance(x, C), C an own class -/
theorem pm_isiC {c : Nat} (hK : X.K = L.K) (ik : IsK X.K L P) (hg : Gl X "isinstance") (hm : X.mg "isinstance" = none) (ha : PE X a (tE L W (ev P Φ ea))) (hb : PE X b (tC (.ref (L.ca c)))) (he : starEach [a, b] X.env = (false, eval a X.env) :: starEach [b] X.env) (he2 : starEach [b] X.env = (false, eval b X.env) :: starEach [] X.env)
    (hpl : (backTo pos (starEach [b] X.env)).any (·.1) = false) : PE X (.Call (.Name "isinstance" p) [a, b] [] pos) (tE L W (ev P Φ (.isi ea [.cls c]))) := by
  refine (pe_callB (call_isC (C := L.ca c)) hg hm (by rfl) (pa_cons ha (pa_cons hb pa_nil he2) he) (by decide) (by decide) he hpl).imp fun σ H Q ⟨ρ, S, η, sr, er, po⟩ => ?_
  unfold ev at po
  refine first sr er po fun x H1 ⟨ρ1, S1, d, x1, s1, r1, p1⟩ => ?_
  obtain ⟨z, e, k⟩ := Post.pur p1
  simp only [Option.map_eq_some_iff, isTys, isTy] at e
  obtain ⟨w, e, rfl⟩ := e
  by_cases hc : P.isc c = true
  · rw [if_pos hc] at e
    have e2 : isOwn P S1 d c = some w := by
      cases q : isOwn P S1 d c with
      | none => simp [q] at e
      | some w' =>
        simp only [q] at e
        cases w' <;> simp at e <;> rw [e]
    have fin : ∀ t, (TyX X.K H1 x t ∨ ExV X.K H1 x t) → PySem.W.kitOne X.K t (.ref (L.ca c)) = some w → _ := fun t ty ek => (⟨x, t, w, rfl, ty, ik.dn c hc, ek, k ρ1 H1 _ (.refl _ _) s1 (by simp)⟩ : rIsC X.K (L.ca c) [x, .ref (L.ca c)] H1 Q)
    unfold isOwn at e2
    have rest : (match clsOf S1 d with
        | some (k, _) => if (P.init k).isSome then some (P.sub k c) else none
        | none => (kindOf S1 d).map fun _ => false) = some w → rIsC X.K (L.ca c) [x, .ref (L.ca c)] H1 Q := fun e3 => by
      cases q : clsOf S1 d with
      | some cf =>
        obtain ⟨k', fs⟩ := cf
        rw [q] at e3
        simp only at e3
        cases q2 : P.init k' with
        | none => rw [q2] at e3; cases e3
        | some f =>
          rw [q2] at e3
          simp only [Option.isSome_some, if_true, Option.some.injEq] at e3
          obtain ⟨a, dx, vs0, rfl, ha, hl, rs⟩ := cls_at s1 r1 q
          obtain ⟨oc, ek⟩ := ik.ob k' f c q2 hc
          obtain ⟨dn, tk⟩ := ik.dn c hc
          exact fin (.ref (L.ca k')) (.inl (.base (.ins ha oc.cl oc.ha dn tk oc.hm))) (by rw [ek, e3])
      | none =>
        rw [q] at e3
        simp only [Option.map_eq_some_iff] at e3
        obtain ⟨t, q3, rfl⟩ := e3
        exact fin (.type t) (.inl (kind_ty hK s1 r1 q3)) (ik.bi t (kind_mem q3) c hc)
    cases d with
    | exc k' fs =>
      simp only at e2
      cases q : (P.exc k').isSome with
      | false => rw [q] at e2; cases e2
      | true =>
        rw [q] at e2
        simp only [if_true, Option.some.injEq] at e2
        obtain ⟨ec, ek⟩ := ik.ex k' c q hc
        simp only [RD] at r1
        obtain ⟨a, dx, vs0, rfl, ha, _, hd, _, hl, rs⟩ := r1
        exact fin (.ref (L.ca k')) (.inr ⟨a, _, dx, _, rfl, rfl, ha, hd, ec⟩) (by rw [ek, e2])
    | _ => exact rest e2
  · rw [if_neg hc] at e
    simp at e
end
end Mi
set_option Elab.async false
set_option linter.all false
set_option maxHeartbeats 1000000
namespace Mi
open PySem PySem.Spec PyProof.Rows L2
abbrev RUn : Rho → Hp → Unit → Unit → Prop := fun _ _ _ _ => True
section
variable {X : Cx} {L : Lk} {W : WX} {P : Prog} {Φ : Call} {ρ : Rho} {H : Hp} {S : Store} {σ : L2.St}
theorem push_okG {γ δ : Type} {R2 : Rho → Hp → γ → δ → Prop} {n : Nat} {D' : Addr} {d : D} {v : V} {g : Unit → M γ} {Q : δ → Hp → Prop} (sr : SR L ρ S H) (hn : ρ[n]? = some (some D') ∨ ρ[n]? = some none) (r : RD L ρ H d v) (h : Post L W σ ρ H R2 Q ((push n d >>= g) S)) :
    ∃ acc, H D' = some (.lst acc) ∧ acc.length < sizeLine ∧ ∃ S', Ext ρ H ρ (upd H D' (.lst (acc ++ [v]))) ∧ SR L ρ S' (upd H D' (.lst (acc ++ [v]))) ∧ Post L W σ ρ (upd H D' (.lst (acc ++ [v]))) R2 Q (g () S') := by
  have h' : Post L W σ ρ H R2 Q (M.bind (push n d) g S) := h
  unfold M.bind push at h'
  cases q : S[n]? with
  | none => simp only [q] at h'; exact h'.elim
  | some c =>
    cases c with
    | list xs =>
      simp only [q] at h'
      by_cases hz : xs.length < line
      · simp only [if_pos hz] at h'
        rcases sr.cell n _ q with ⟨e, _⟩ | ⟨a, e1, vs, ha, rs⟩
        · cases e
        · rcases hn with hn | hn
          · rw [e1] at hn
            cases hn
            refine ⟨vs, ha, by rw [← rs.length]; exact hz, _, sr.ext_write e1, sr_list sr e1 (rs.append (.cons r .nil)), Post.ext (sr.ext_write e1) h'⟩
          · rw [e1] at hn; cases hn
      · simp only [if_neg hz] at h'; exact h'.elim
    | _ => simp only [q] at h'; exact h'.elim
noncomputable def turn2M (P : Prog) (Φ : Call) (η : Env) (own : List Nat) (tg : Tg) (cond : List E) (k2 : ItK) (ia2 : List E) (own2 : List Nat) (tg2 : Tg) (cond2 : List E) (elt : E) (n : Nat) (x : D) : M Unit := do
  let η1 ← opt (asg tg x (wipeD η own))
  let t ← evTests P Φ cond η1
  if t then do
    let ws ← evs P Φ ia2 η1
    let us ← opt (items k2 ws)
    lcLoop (turnM P Φ η1 own2 tg2 cond2 elt) n us
  else pure ()
theorem lc2Loop_cons (turn : D → M Unit) (x : D) (xs : List D) : lc2Loop turn (x :: xs) = (calm (turn x) >>= fun _ => lc2Loop turn xs) := by
  rw [lc2Loop]
  try congr 1
theorem evlc2 {own : List Nat} {k : ItK} {ia : List E} {tg' : Tg} {cond : List E} {k2 : ItK} {ia2 : List E} {own2 : List Nat} {tg2 : Tg} {cond2 : List E} {elt : E} {η : Env} :
    ev P Φ (.lc2 own k ia tg' cond k2 ia2 own2 tg2 cond2 elt) η = (evs P Φ ia η >>= fun vs => opt (items k vs) >>= fun xs => alloc (.list []) >>= fun n => lc2Loop (turn2M P Φ η own tg' cond k2 ia2 own2 tg2 cond2 elt n) xs >>= fun _ => lcEnd false n) := by
  conv => lhs; unfold ev
  rfl
theorem lc2_of {own : List Nat} {k : ItK} {ia : List E} {tg' : Tg} {cond : List E} {k2 : ItK} {ia2 : List E} {own2 : List Nat} {tg2 : Tg} {cond2 : List E} {elt : E} {H : Hp} {Q : VK} (hns : ∀ j ∈ tgNs tg', j ∈ own) (hns2 : ∀ j ∈ tgNs tg2, j ∈ own2)
    (h : tE L W (ev P Φ (.lc2 own k ia tg' cond k2 ia2 own2 tg2 cond2 elt)) σ H Q) :
    tLc2 (iM L W P Φ k ia) (tG L tg') (tT L W0 (evTests P Φ cond)) (iM L W0 P Φ k2 ia2) (tG L tg2) (tT L W0 (evTests P Φ cond2)) (tE L W0 (ev P Φ elt)) own own2 σ H Q := by
  obtain ⟨ρ, S, η, sr, er, po⟩ := h
  rw [evlc2] at po
  refine first sr er po fun vs H1 ⟨ρ1, S1, ds, x1, s1, r1, p1⟩ => ?_
  obtain ⟨xs, q, p1a⟩ := Post.opt p1
  refine ⟨ρ1, S1, ds, xs, s1, r1, q, fun J hJ D' hD => ?_⟩
  have xa := s1.ext_alloc (o := .lst []) hD
  have sa : SR L (ρ1 ++ [some D']) (S1 ++ [.list []]) (upd H1 D' (.lst [])) := s1.alloc hD ⟨[], upd_same, RDs.nil⟩
  generalize hturn : turn2M P Φ η own tg' cond k2 ia2 own2 tg2 cond2 elt S1.length = turn at *
  have pa : Post L W σ (ρ1 ++ [some D']) (upd H1 D' (.lst [])) (RD L) Q ((lc2Loop turn xs >>= fun _ => lcEnd false S1.length) (S1 ++ [.list []])) := by
    rw [← hturn]
    exact Post.ext xa p1a
  refine ⟨fun i m H => m = xs.length - i ∧ i ≤ xs.length ∧ ∃ ρ S, Ext (ρ1 ++ [some D']) (upd H1 D' (.lst [])) ρ H ∧ SR L ρ S H ∧ Post L W σ ρ H (RD L) Q ((lc2Loop turn (xs.drop i) >>= fun _ => lcEnd false S1.length) S),
    ⟨xs.length, by simp, Nat.zero_le _, _, _, .refl _ _, sa, by simpa using pa⟩, ?_⟩
  rintro i m H ⟨rfl, hi, ρ, S, x2, s2, p2⟩
  obtain ⟨j1, j2⟩ := hJ ρ S H (xa.trans x2) s2
  by_cases hlt : i < xs.length
  · have hx : xs[i]? = some xs[i] := List.getElem?_eq_getElem hlt
    obtain ⟨g1, g2⟩ := j1 i _ hx
    rw [List.drop_eq_getElem_cons hlt, lc2Loop_cons, M.assoc] at p2
    refine .inr ⟨g1, fun H' => i + 1 ≤ xs.length ∧ ∃ ρ S, Ext (ρ1 ++ [some D']) (upd H1 D' (.lst [])) ρ H' ∧ SR L ρ S H' ∧ Post L W σ ρ H' (RD L) Q ((lc2Loop turn (xs.drop (i + 1)) >>= fun _ => lcEnd false S1.length) S), fun H' h => ⟨xs.length - (i + 1), by omega, rfl, h.1, h.2⟩, fun v H' yl => ?_⟩
    obtain ⟨x3, s3, r3⟩ := g2 v H' yl
    have pt := calm_bind (R := RUn) (σ' := σ) (Post.ext x3 p2)
    have e0 : turn xs[i] = turn2M P Φ η own tg' cond k2 ia2 own2 tg2 cond2 elt S1.length xs[i] := by rw [hturn]
    rw [e0] at pt
    unfold turn2M at pt
    obtain ⟨η', qa, pt1⟩ := Post.opt pt
    have erw : ER L ρ H' (wipeD η own) (wipe σ own) := ((((er.mono x1).mono xa).mono x2).mono x3).wipe own
    refine ⟨ρ, wipeD η own, xs[i], η', erw, r3, qa, fun σ' er' ol => ⟨wipe_only ol hns, ρ, S, η', s3, er', ?_⟩⟩
    refine (Post.bind (R := RB) pt1).imp fun t H3 ⟨ρ3, S3, t', x4, s4, rt, p3⟩ => ?_
    cases rt
    dsimp only at p3
    cases t with
    | true =>
      rw [if_pos rfl] at p3 ⊢
      refine ⟨ρ3, S3, η', s4, er'.mono x4, ?_⟩
      refine (Post.bind (R := RDs L) p3).imp fun vs2 H4 ⟨ρ4, S4, ds2, x5, s5, rds, p4⟩ => ?_
      obtain ⟨us, qus, p4a⟩ := Post.opt p4
      refine ⟨ρ4, S4, ds2, us, s5, rds, qus, fun J1 hJ1 => ?_⟩
      have xx4 : Ext (ρ1 ++ [some D']) (upd H1 D' (.lst [])) ρ4 H4 := ((x2.trans x3).trans x4).trans x5
      have er4 : ER L ρ4 H4 η' σ' := (er'.mono x4).mono x5
      refine ⟨fun j k H => k = us.length - j ∧ j ≤ us.length ∧ ∃ ρ' S', Ext ρ4 H4 ρ' H ∧ SR L ρ' S' H ∧ Post L W0 σ ρ' H RUn (Then L W σ ρ H' RUn (RD L) Q fun _ => (lc2Loop turn (xs.drop (i + 1)) >>= fun _ => lcEnd false S1.length)) (lcLoop (turnM P Φ η' own2 tg2 cond2 elt) S1.length (us.drop j) S'),
        ⟨us.length, by simp, Nat.zero_le _, ρ4, S4, .refl _ _, s5, by simpa using p4a⟩, ?_⟩
      rintro j kk H5 ⟨rfl, hj, ρ5, S5, x6, s6, p6⟩
      obtain ⟨jj1, jj2⟩ := hJ1 ρ5 S5 H5 x6 s6
      by_cases hlt2 : j < us.length
      · have hx2 : us[j]? = some us[j] := List.getElem?_eq_getElem hlt2
        obtain ⟨gg1, gg2⟩ := jj1 j _ hx2
        rw [List.drop_eq_getElem_cons hlt2, lcLoop_cons] at p6
        refine .inr ⟨gg1, fun H => j + 1 ≤ us.length ∧ ∃ ρ' S', Ext ρ4 H4 ρ' H ∧ SR L ρ' S' H ∧ Post L W0 σ ρ' H RUn (Then L W σ ρ H' RUn (RD L) Q fun _ => (lc2Loop turn (xs.drop (i + 1)) >>= fun _ => lcEnd false S1.length)) (lcLoop (turnM P Φ η' own2 tg2 cond2 elt) S1.length (us.drop (j + 1)) S'),
          fun H h => ⟨us.length - (j + 1), by omega, rfl, h.1, h.2⟩, fun w H6 yl2 => ?_⟩
        obtain ⟨x7, s7, r7⟩ := gg2 w H6 yl2
        have pt2 := calm_bind (R := ROp L) (σ' := σ') (Post.ext x7 p6)
        unfold turnM at pt2
        obtain ⟨η2, qa2, pt3⟩ := Post.opt pt2
        have erw2 : ER L ρ5 H6 (wipeD η' own2) (wipe σ' own2) := ((er4.mono x6).mono x7).wipe own2
        refine ⟨ρ5, wipeD η' own2, us[j], η2, erw2, r7, qa2, fun σ2 er2 ol2 => ⟨wipe_only ol2 hns2, ρ5, S5, η2, s7, er2, ?_⟩⟩
        refine (Post.bind (R := RB) pt3).imp fun t2 H7 ⟨ρ7, S7, t2', x8, s8, rt2, p8⟩ => ?_
        cases rt2
        dsimp only at p8
        cases t2 with
        | true =>
          rw [if_pos rfl] at p8 ⊢
          refine ⟨ρ7, S7, η2, s8, er2.mono x8, ?_⟩
          refine (Post.bind (R := RD L) p8).imp fun y H8 ⟨ρ8, S8, d, x9, s9, rd, p9⟩ => ?_
          obtain ⟨ρ9, S9, o, x10, s10, ro, p10⟩ := (show Post L W0 σ' ρ8 H8 (ROp L) _ (.ok (some d) S8) from p9) ρ8 H8 (some y) (.refl _ _) s9 rd
          cases o with
          | none => exact (show False from ro).elim
          | some d' =>
            have xx : Ext (ρ1 ++ [some D']) (upd H1 D' (.lst [])) ρ9 H8 := ((xx4.trans x6).trans x7).trans x10
            obtain ⟨acc, h1, h2, S10, y1, y2, y3⟩ := push_okG s10 (hn_of s1.len xx) ro p10
            exact ⟨acc, h1, h2, hlt2, ρ9, S10, ((x6.trans x7).trans x10).trans y1, y2, y3⟩
        | false =>
          rw [if_neg Bool.false_ne_true] at p8 ⊢
          obtain ⟨ρ9, S9, o, x10, s10, ro, p10⟩ := (show Post L W0 σ' ρ7 H7 (ROp L) _ (.ok none S7) from p8) ρ7 H7 none (.refl _ _) s8 trivial
          cases o with
          | none => exact ⟨hlt2, ρ9, S9, (x6.trans x7).trans x10, s10, p10⟩
          | some d' => exact (show False from ro).elim
      · have e : j = us.length := by omega
        subst e
        rw [List.drop_length] at p6
        have p7 : Post L W0 σ ρ5 H5 RUn (Then L W σ ρ H' RUn (RD L) Q fun _ => (lc2Loop turn (xs.drop (i + 1)) >>= fun _ => lcEnd false S1.length)) (.ok () S5) := p6
        obtain ⟨ρ9, S9, o, x10, s10, ro, p10⟩ := p7 ρ5 H5 () (.refl _ _) s6 trivial
        exact .inl ⟨jj2 _ (Nat.le_refl _), hlt, ρ9, S9, (x2.trans x3).trans x10, s10, p10⟩
    | false =>
      rw [if_neg Bool.false_ne_true] at p3 ⊢
      obtain ⟨ρ5, S5, o, x6, s6, ro, p5⟩ := (show Post L W0 σ ρ3 H3 RUn _ (.ok () S3) from p3) ρ3 H3 () (.refl _ _) s4 trivial
      exact ⟨hlt, ρ5, S5, (x2.trans x3).trans x6, s6, p5⟩
  · have e : i = xs.length := by omega
    subst e
    rw [List.drop_length] at p2
    have p3 : Post L W σ ρ H (RD L) Q (lcEnd false S1.length S) := p2
    exact .inl ⟨j2 _ (Nat.le_refl _), lcEnd_ok s2 (hn_of s1.len x2) p3⟩
theorem pm_lc2 {elt tg iter tg1 iter1 : Expr} {ifs ifs1 : List Expr} {scope : Scope} {own : List (Str × Nat)} {own2 : List Nat} {pos : Pos} {k k2 : ItK} {ia ia2 : List E} {tg' tg2 : Tg} {cond cond2 : List E} {elt' : E} (hc : X.calm = true) (hN : X.N.Nodup) (hi : PI X tg iter (iM L W P Φ k ia)) (ok : BlkOk X.N X.env.scope scope own)
    (hv : ∀ i ∈ own2, i ∈ own.map (·.2)) (hg : BlkAll X scope fun Y => PG Y tg (tG L tg')) (ht : BlkAll X scope fun Y => PTs Y ifs (tT L W0 (evTests P Φ cond))) (hi1 : BlkAll X scope fun Y => PI Y tg1 iter1 (iM L W0 P Φ k2 ia2)) (hg1 : BlkAll X scope fun Y => PG Y tg1 (tG L tg2))
    (ht1 : BlkAll X scope fun Y => PTs Y ifs1 (tT L W0 (evTests P Φ cond2))) (he : BlkAll X scope fun Y => PE Y elt (tE L W0 (ev P Φ elt'))) (hs : ∀ x, foldedSetIterable iter X.env x = pure x) (hs1 : ∀ env x, foldedSetIterable iter1 env x = pure x) (hns : ∀ j ∈ tgNs tg', j ∈ own.map (·.2)) (hns2 : ∀ j ∈ tgNs tg2, j ∈ own2) :
    PE X (.ListComp elt [⟨tg, iter, ifs, 0⟩, ⟨tg1, iter1, ifs1, 0⟩] scope pos) (tE L W (ev P Φ (.lc2 (own.map (·.2)) k ia tg' cond k2 ia2 own2 tg2 cond2 elt'))) :=
  (pe_lc2 hc hN hi ok hv hg ht hi1 hg1 ht1 he hs hs1).imp fun σ H Q h => lc2_of hns hns2 h
theorem psm_setLc2 {i : Nat} {y : Str} {py spos : Pos} {elt tg iter tg1 iter1 : Expr} {ifs ifs1 : List Expr} {scope : Scope} {own : List (Str × Nat)} {own2 : List Nat} {pos : Pos} {k k2 : ItK} {ia ia2 : List E} {tg' tg2 : Tg} {cond cond2 : List E} {elt' : E} (hc : X.calm = true) (hN : X.N.Nodup) (hy : X.N[i]? = some y) (hyl : X.env.scope.names.lookup y = some .local)
    (hsw : swapsWith (.ListComp elt [⟨tg, iter, ifs, 0⟩, ⟨tg1, iter1, ifs1, 0⟩] scope pos) (some (.Name y py)) spos.line X.env = pure true) (hi : PI X tg iter (iM L W P Φ k ia)) (ok : BlkOk X.N X.env.scope scope own)
    (hv : ∀ i ∈ own2, i ∈ own.map (·.2)) (hg : BlkAll X scope fun Y => PG Y tg (tG L tg')) (ht : BlkAll X scope fun Y => PTs Y ifs (tT L W0 (evTests P Φ cond))) (hi1 : BlkAll X scope fun Y => PI Y tg1 iter1 (iM L W0 P Φ k2 ia2)) (hg1 : BlkAll X scope fun Y => PG Y tg1 (tG L tg2))
    (ht1 : BlkAll X scope fun Y => PTs Y ifs1 (tT L W0 (evTests P Φ cond2))) (he : BlkAll X scope fun Y => PE Y elt (tE L W0 (ev P Φ elt'))) (hs : ∀ x, foldedSetIterable iter X.env x = pure x) (hs1 : ∀ env x, foldedSetIterable iter1 env x = pure x) (hns : ∀ j ∈ tgNs tg', j ∈ own.map (·.2)) (hns2 : ∀ j ∈ tgNs tg2, j ∈ own2) :
    PS X (.Assign [.Name y py] (.ListComp elt [⟨tg, iter, ifs, 0⟩, ⟨tg1, iter1, ifs1, 0⟩] scope pos) spos) (tS L W (ex P Φ (.set (.n i) (.lc2 (own.map (·.2)) k ia tg' cond k2 ia2 own2 tg2 cond2 elt')))) := by
  refine (ps_setLc2 hc hN hy hyl hsw hi ok hv hg ht hi1 hg1 ht1 he hs hs1).imp fun D σ H ⟨ρ, S, η, sr, er, po⟩ => ?_
  refine lc2_of hns hns2 ?_
  unfold ex at po
  refine firstX sr er po fun z H1 ⟨ρ1, S1, d, x1, s1, r1, p1⟩ => ?_
  by_cases h : i < η.length
  · simp only [asg, if_pos h] at p1
    exact p1 ρ1 H1 _ (.refl _ _) s1 ((er.mono x1).set r1 i)
  · simp only [asg, if_neg h] at p1
    exact p1.elim
end
end Mi
set_option Elab.async false
set_option linter.all false
set_option maxHeartbeats 1000000
namespace Mi
open PySem PySem.Spec PyProof.Rows L2 ClX
structure SmOk (K : PySem.W.Frag) (L : Lk) (P : Prog) (fa : Nat → Addr) : Prop where
  sys : SysK K
  st : ∀ c m f, P.meth c m = some (.stat f) → ∃ mc p rest, CRead K (L.ca c) mc ∧ PySem.W.findCls K (.ref (L.ca c)) mc m = some (.get (.builtin "staticmethod.__get__") (.ref p) .none (.ref (L.ca c))) ∧ PySem.W.recIn K p "staticmethod" = some (.ref (fa f) :: rest) ∧ PySem.W.keepIn K (.ref (fa f)) = true
section
variable {X : Cx} {L : Lk} {W : WX} {P : Prog} {Φ : Call} {fa : Nat → Addr} {n : Nat} {pos apos : Pos} {o : Expr} {m : Str} {xs : List Expr} {kws : List Keyword} {es kes : List E} {ks : List Str} {ea : E}
theorem pm_cs {c : Nat} {pl : Sem Bool} (F : FnM X.prog X.w X.mg X.base L P fa Φ n) (hK : X.K = L.K) (hr : RoomM (2 * n + 1) X.A) (tk : Takes X W) (sm : SmOk X.K L P fa) (he : PE X o (tC (.ref (L.ca c)))) (sh : ShM X L W P Φ pos xs kws es ks kes)
    (ht : eval (.Call (.Attribute o m apos) xs kws pos) X.env = (do
      let ov ← eval o X.env
      standAt apos.atName
      let (f, first) ← holding [ov] (getMethod ov m pl)
      callWith pos f first (backTo pos (starEach xs X.env)) (backToKw pos (keywordEach kws X.env)))) : PE X (.Call (.Attribute o m apos) xs kws pos) (tE L W (ev P Φ (.cs c m es ks kes))) := by
  refine ⟨fun pins s σ H Q I ⟨ρ, S, η, sr, er, po⟩ => ?_⟩
  unfold ev at po
  obtain ⟨f, q, po⟩ := Post.opt po
  have q : P.meth c m = some (.stat f) := by
    unfold statM at q
    split at q
    · next e => cases q; exact e
    · cases q
  obtain ⟨mc, p, rest, k1, k2, k3, k4⟩ := sm.st _ _ _ q
  refine PySem.W.methodCall_KW (pl := pl) (thn (he.run pins s σ H (fun x H1 => x = .ref (L.ca c) ∧ H1 = H) I ⟨rfl, rfl⟩) fun u s1 ⟨x, H1, I1, rx, ex, eH⟩ => ?_) ht
  subst ex eH
  obtain rfl : u = Value.ref (L.ca c) := rx
  refine PySem.W.method_cls I1.kIn k1.ga (PySem.W.cls_bind I1.kIn k1.rd k2 (wpAny_call (PySem.W.sm_get (s := { s1 with toks := s1.toks + 1 }) I1.kIn k3 (PySem.W.handed_on rfl ?_))))
  refine sh _ [] _ _ σ H1 _ (kept_K k4) (I1.tok _) ?_
  refine first sr er po fun vs H2 ⟨ρ1, S1, ds, x1, s1, r1, p1⟩ => ?_
  refine first s1 (er.mono x1) p1 fun zs H3 ⟨ρ2, S2, es', x2, s3, r2, p2⟩ => ?_
  intro us ws s4 I4 q1 q2
  exact run_m F hK hr tk I4 (stands_of (r1.mono x2) q1) (stands_of r2 q2) s3 p2
theorem pm_cmv {pl : Sem Bool} (F : FnM X.prog X.w X.mg X.base L P fa Φ n) (hK : X.K = L.K) (hr : RoomM (2 * n + 1) X.A) (tk : Takes X W) (ok : ClsOk X.K L P fa) (he : PE X o (tE L W (ev P Φ ea))) (sh : ShM X L W P Φ pos xs kws es ks kes)
    (ht : eval (.Call (.Attribute o m apos) xs kws pos) X.env = (do
      let ov ← eval o X.env
      standAt apos.atName
      let (f, first) ← holding [ov] (getMethod ov m pl)
      callWith pos f first (backTo pos (starEach xs X.env)) (backToKw pos (keywordEach kws X.env)))) : PE X (.Call (.Attribute o m apos) xs kws pos) (tE L W (ev P Φ (.cmv ea m es ks kes))) := by
  refine ⟨fun pins s σ H Q I ⟨ρ, S, η, sr, er, po⟩ => ?_⟩
  unfold ev at po
  refine PySem.W.methodCall_KW (pl := pl) (thn (he.run pins s σ H _ I (first sr er po fun x H1 t => t)) fun u s1 ⟨x, H1, I1, rx, ρ1, S1, d, x1, sr1, r1, p1⟩ => ?_) ht
  obtain ⟨c, q0, pp⟩ := Post.opt p1
  obtain ⟨f, q, pq⟩ := Post.opt pp
  have e0 : d = .cls c := by
    unfold asCls at q0
    split at q0
    · cases q0; rfl
    · cases q0
  subst e0
  have q : P.meth c m = some (.cls f) := by
    unfold clsM at q
    split at q
    · next e => cases q; exact e
    · cases q
  obtain ⟨mc, p, k1, k2⟩ := ok.cmet _ _ _ q
  simp only [RD] at r1
  subst r1
  obtain rfl : u = Value.ref (L.ca c) := rx
  refine getmethcm_ok I1 k1 k2 fun s2 I2 => ?_
  refine sh _ [] _ s2 σ H1 _ (kept_M k2.fi) I2 ?_
  refine first sr1 (er.mono x1) pq fun vs H2 ⟨ρ2, S2, ds, x2, s2, r2, p2⟩ => ?_
  refine first s2 ((er.mono x1).mono x2) p2 fun zs H3 ⟨ρ3, S3, es', x3, s3, r3, p3⟩ => ?_
  intro us ws s4 I4 q1 q2
  exact run_cmM F hK hr tk I4 (stands_of (r2.mono x3) q1) (stands_of r3 q2) s3 p3
end
end Mi
set_option Elab.async false
set_option linter.all false
set_option maxHeartbeats 2000000
namespace Mi
open PySem PySem.Spec PyProof.Rows L2
/-- what a global name stands for -/
inductive GV where
  | fn (f : Nat) | cls (c : Nat) | con (n : Nat) | blt
  deriving DecidableEq
/-- what is known of the context -/
structure Ck where
  N : List Str
  sc : Scope
  fnc : Str → Bool
  glob : Str → Option GV
structure Good (c : Ck) (X : Cx) (L : Lk) (W : WX) (P : Prog) (Φ : Call) (fa : Nat → Addr) (n : Nat) : Prop where
  hK : X.K = L.K
  F : FnM X.prog X.w X.mg X.base L P fa Φ n
  room : RoomM (2 * n + 1) X.A
  tk : Takes X W
  ok : ClsOk X.K L P fa
  xok : XOk X.prog X.K L P
  isk : IsK X.K L P
  smo : SmOk X.K L P fa
  calm : X.calm = true
  nd : X.N.Nodup
  N : X.N = c.N
  sc : X.env.scope = c.sc
  fnc : ∀ x, c.fnc x = true → X.fn x = true
  gfn : ∀ x f, c.glob x = some (.fn f) → X.mg x = some (.ref (fa f)) ∧ PySem.W.keepIn X.K (.ref (fa f)) = true
  gcls : ∀ x k, c.glob x = some (.cls k) → X.mg x = some (.ref (L.ca k)) ∧ PySem.W.keepIn X.K (.ref (L.ca k)) = true
  gcon : ∀ x k, c.glob x = some (.con k) → ∃ d v u, P.con k = some d ∧ X.mg x = some u ∧ RelV v u ∧ ∀ ρ H, RD L ρ H d v
  gblt : ∀ x, c.glob x = some .blt → X.mg x = none
section
variable {c : Ck} {X : Cx} {L : Lk} {W : WX} {P : Prog} {Φ : Call} {fa : Nat → Addr} {n : Nat}
theorem Good.gl (g : Good c X L W P Φ fa n) {x : Str} (h : c.sc.names.lookup x = some .globalImplicit) : Gl X x := by
  show X.env.scope.names.lookup x = _
  rw [g.sc]; exact h
theorem Good.u64 (g : Good c X L W P Φ fa n) : X.A.units + 65 < cLine := by have := g.room.un; omega
theorem Good.gu (g : Good c X L W P Φ fa n) : X.A.guards = some [] := g.room.gu
end
def visB (sc : Scope) (x : Str) : Bool := match sc.names.lookup x with
  | some .local => true
  | some .cell => true
  | some .free => true
  | _ => false
theorem vis_of {sc : Scope} {x : Str} (h : visB sc x = true) : Vis sc x := by
  unfold visB at h
  unfold Vis
  split at h
  · next e => exact .inl e
  · next e => exact .inr (.inl e)
  · next e => exact .inr (.inr e)
  · cases h
def locB (c : Ck) (x : Str) : Bool := match c.sc.names.lookup x with
  | some .local => true
  | some .cell => c.fnc x
  | _ => false
theorem loc_of {c : Ck} {x : Str} (h : locB c x = true) : Loc c.sc x ∧ (c.fnc x = true ∨ c.sc.names.lookup x = some .local) := by
  unfold locB at h
  split at h
  · next e => exact ⟨.inl e, .inr e⟩
  · next e => exact ⟨.inr e, .inl h⟩
  · cases h
abbrev SE (c : Ck) (x : Expr) (e : E) : Prop := ∀ X L W P Φ fa n, Good c X L W P Φ fa n → PE X x (tE L W (ev P Φ e))
abbrev ST (c : Ck) (x : Expr) (e : E) : Prop := ∀ X L W P Φ fa n, Good c X L W P Φ fa n → PT X x (tT L W (evT P Φ e))
abbrev SA (c : Ck) (xs : List Expr) (es : List E) : Prop := ∀ X L W P Φ fa n, Good c X L W P Φ fa n → PA X xs (tA L W (evs P Φ es))
abbrev SK (c : Ck) (kws : List Keyword) (es : List E) : Prop := ∀ X L W P Φ fa n, Good c X L W P Φ fa n → PK X kws (tA L W (evs P Φ es))
abbrev SP' (c : Ck) (pos : Pos) (ks : List (Option Expr)) (vs : List Expr) (es : List E) : Prop := ∀ X L W P Φ fa n, Good c X L W P Φ fa n → PPm X L W P Φ pos ks vs es
abbrev SO (c : Ck) (x : Option Expr) (e : E) : Prop := ∀ X L W P Φ fa n, Good c X L W P Φ fa n → PO X x (tP L W (evP P Φ e))
abbrev SI (c : Ck) (tg x : Expr) (k : ItK) (es : List E) : Prop := ∀ X L W P Φ fa n, Good c X L W P Φ fa n → PI X tg x (iM L W P Φ k es)
abbrev SG (c : Ck) (x : Expr) (t : Tg) : Prop := ∀ X L W P Φ fa n, Good c X L W P Φ fa n → PG X x (tG L t)
abbrev SGs (c : Ck) (xs : List Expr) (ts : List Tg) : Prop := ∀ X L W P Φ fa n, Good c X L W P Φ fa n → PGs X xs (tGs L ts)
abbrev SSh (c : Ck) (pos : Pos) (xs : List Expr) (kws : List Keyword) (es : List E) (ks : List Str) (kes : List E) : Prop := ∀ X L W P Φ fa n, Good c X L W P Φ fa n → ShM X L W P Φ pos xs kws es ks kes
abbrev SAnd (c : Ck) (pos : Pos) (xs : List Expr) (es : List E) : Prop := ∀ X L W P Φ fa n, Good c X L W P Φ fa n → PE X (.BoolOp .And xs pos) (tE L W (evAnd P Φ es))
abbrev SOr (c : Ck) (pos : Pos) (xs : List Expr) (es : List E) : Prop := ∀ X L W P Φ fa n, Good c X L W P Φ fa n → PE X (.BoolOp .Or xs pos) (tE L W (evOr P Φ es))
abbrev SAndT (c : Ck) (pos : Pos) (xs : List Expr) (es : List E) : Prop := ∀ X L W P Φ fa n, Good c X L W P Φ fa n → PW X (.BoolOp .And xs pos) (tT L W (fun η => do
    let x ← evAnd P Φ es η
    truth x))
abbrev SOrT (c : Ck) (pos : Pos) (xs : List Expr) (es : List E) : Prop := ∀ X L W P Φ fa n, Good c X L W P Φ fa n → PW X (.BoolOp .Or xs pos) (tT L W (fun η => do
    let x ← evOr P Φ es η
    truth x))
def notSt : E → Bool
  | .st _ => false
  | _ => true
theorem notSt_of {e : E} (h : notSt e = true) : ∀ x, e ≠ .st x := by
  rintro x rfl
  cases h
theorem pm_dead {X : Cx} {L : Lk} {W : WX} {P : Prog} {Φ : Call} {x : Expr} {e : E} : PE X x (tE L W (ev P Φ (.st e))) := ⟨fun pins s σ H Q I ⟨ρ, S, η, sr, er, po⟩ => by
  unfold ev at po
  exact (show False from po).elim⟩
theorem pt_dead {X : Cx} {L : Lk} {W : WX} {P : Prog} {Φ : Call} {x : Expr} {e : E} : PT X x (tT L W (evT P Φ (.st e))) := ⟨fun pins s σ H Q I ⟨ρ, S, η, sr, er, po⟩ => by
  unfold evT ev at po
  exact (show False from po).elim⟩
def ckVar (c : Ck) (x : Expr) (i : Nat) : Option (PLift (SE c x (.v i))) := match x with
  | .Name nm p => if h : c.N[i]? = some nm ∧ visB c.sc nm = true ∧ (nm == ("__debug__" : Str)) = false ∧ (nm == ("__classdict__" : Str)) = false then
      some ⟨fun X L W P Φ fa n g => pm_var (by rw [g.N]; exact h.1) (by rw [g.sc]; exact vis_of h.2.1) h.2.2.1 h.2.2.2⟩ else none
  | _ => none
def ckCon (c : Ck) (x : Expr) (j : Nat) : Option (PLift (SE c x (.g j))) := match x with
  | .Name nm p => if h : c.sc.names.lookup nm = some .globalImplicit ∧ c.glob nm = some (.con j) ∧ (nm == ("__debug__" : Str)) = false then
      some ⟨fun X L W P Φ fa n g => by
        obtain ⟨d, v, u, h1, h2, h3, h4⟩ := g.gcon _ _ h.2.1
        exact pm_g (pe_glob (g.gl h.1) h2 h3 h.2.2) h1 h4⟩ else none
  | _ => none
/-- a class as a value -/
def ckCls (c : Ck) (x : Expr) (k : Nat) : Option (PLift (∀ X L W P Φ fa n, Good c X L W P Φ fa n → PE X x (tC (.ref (L.ca k))))) := match x with
  | .Name nm p => if h : c.sc.names.lookup nm = some .globalImplicit ∧ c.glob nm = some (.cls k) ∧ (nm == ("__debug__" : Str)) = false then
      some ⟨fun X L W P Φ fa n g => pe_glob (g.gl h.1) (g.gcls _ _ h.2.1).1 rfl h.2.2⟩ else none
  | _ => none
def ckConst (c : Ck) (x : Expr) (d : D) : Option (PLift (SE c x (.c d))) := match d with
  | .none => match x with
    | .Constant .none _ _ => some ⟨fun X L W P Φ fa n g => pm_c pe_non fun _ _ => by simp⟩
    | _ => none
  | .bool b => match x with
    | .Constant (.bool b') _ _ => if h : b' = b then some ⟨fun X L W P Φ fa n g => pm_c (v := .bl b) (by rw [h]; exact pe_bl) fun _ _ => by simp⟩ else none
    | _ => none
  | .int i => match x with
    | .Constant (.int i') _ _ => if h : i' = i then some ⟨fun X L W P Φ fa n g => pm_c (v := .int i) (by rw [h]; exact pe_int) fun _ _ => by simp⟩ else none
    | _ => none
  | .str z => match x with
    | .Constant (.str z') _ _ => if h : z' = z then some ⟨fun X L W P Φ fa n g => pm_c (v := .str z) (by rw [h]; exact pe_str) fun _ _ => by simp⟩ else none
    | _ => none
  | .cls k => match ckCls c x k with
    | some q => some ⟨fun X L W P Φ fa n g => pm_c (q.down X L W P Φ fa n g) fun _ _ => by simp⟩
    | none => none
  | _ => none
def ckBOp (o : BOp) (op : Operator) : Option (PLift (∀ (X : Cx) (L : Lk), X.K = L.K → OpR X (binaryOp op) (rPur L (binop o)))) := match o with
  | .add => match op with
    | .Add => some ⟨fun X L hK => om_add hK⟩
    | _ => none
  | .sub => match op with
    | .Sub => some ⟨fun X L hK => om_sub⟩
    | _ => none
  | .mul => match op with
    | .Mult => some ⟨fun X L hK => om_mul hK⟩
    | _ => none
  | .fdiv => match op with
    | .FloorDiv => some ⟨fun X L hK => om_fdiv⟩
    | _ => none
  | .mod => match op with
    | .Mod => some ⟨fun X L hK => om_mod⟩
    | _ => none
  | .pow => match op with
    | .Pow => some ⟨fun X L hK => om_pow⟩
    | _ => none
def ckCOp (o : COp) (op : CmpOp) : Option (PLift (∀ (X : Cx) (L : Lk), X.K = L.K → X.A.units + 65 < cLine → OpR X (compareOp op) (rPur L (cmpop o)))) := match o with
  | .eq => match op with
    | .Eq => some ⟨fun X L hK hu => om_eq hK (by omega)⟩
    | _ => none
  | .ne => match op with
    | .NotEq => some ⟨fun X L hK hu => om_ne hK (by omega)⟩
    | _ => none
  | .lt => match op with
    | .Lt => some ⟨fun X L hK hu => om_lt⟩
    | _ => none
  | .le => match op with
    | .LtE => some ⟨fun X L hK hu => om_le⟩
    | _ => none
  | .gt => match op with
    | .Gt => some ⟨fun X L hK hu => om_gt⟩
    | _ => none
  | .ge => match op with
    | .GtE => some ⟨fun X L hK hu => om_ge⟩
    | _ => none
  | .in_ => match op with
    | .In => some ⟨fun X L hK hu => om_in hK hu⟩
    | _ => none
  | .nin => match op with
    | .NotIn => some ⟨fun X L hK hu => om_nin hK hu⟩
    | _ => none
/-- a built-in function's rule: its name, whether it is a type -/
def ckB (b : BFn) (nm : Str) : Option (PLift ((∃ id, bootBuiltins nm = some (.builtin id) ∧ ∀ (X : Cx) (L : Lk), X.K = L.K → X.A.units + 65 < cLine → X.A.guards = some [] → X.calm = true → SysK X.K → CallR X (.builtin id) (rB L b)) ∨
    ∃ T, bootBuiltins nm = some (.type T) ∧ ∀ (X : Cx) (L : Lk), X.K = L.K → X.A.units + 65 < cLine → X.A.guards = some [] → X.calm = true → SysK X.K → CallR X (.type T) (rB L b))) := match b with
  | .len => if h : nm = "len" then some ⟨.inl ⟨"len", by rw [h]; rfl, fun X L hK hu hg hc _ => bm_len hK⟩⟩ else none
  | .list => if h : nm = "list" then some ⟨.inr ⟨"list", by rw [h]; rfl, fun X L hK hu hg hc _ => bm_list hK⟩⟩ else none
  | .tuple => if h : nm = "tuple" then some ⟨.inr ⟨"tuple", by rw [h]; rfl, fun X L hK hu hg hc _ => bm_tuple hK⟩⟩ else none
  | .sorted => if h : nm = "sorted" then some ⟨.inl ⟨"sorted", by rw [h]; rfl, fun X L hK hu hg hc _ => bm_sorted hK (by omega)⟩⟩ else none
  | .max1 => if h : nm = "max" then some ⟨.inl ⟨"max", by rw [h]; rfl, fun X L hK hu hg hc _ => bm_max1 hK hc hu⟩⟩ else none
  | .max2 => if h : nm = "max" then some ⟨.inl ⟨"max", by rw [h]; rfl, fun X L hK hu hg hc _ => bm_max2 hc⟩⟩ else none
  | .min1 => if h : nm = "min" then some ⟨.inl ⟨"min", by rw [h]; rfl, fun X L hK hu hg hc _ => bm_min1 hK hc hu⟩⟩ else none
  | .min2 => if h : nm = "min" then some ⟨.inl ⟨"min", by rw [h]; rfl, fun X L hK hu hg hc _ => bm_min2 hc⟩⟩ else none
  | .sum => if h : nm = "sum" then some ⟨.inl ⟨"sum", by rw [h]; rfl, fun X L hK hu hg hc _ => bm_sum hK hc⟩⟩ else none
  | .any => if h : nm = "any" then some ⟨.inl ⟨"any", by rw [h]; rfl, fun X L hK hu hg hc _ => bm_any hK hc⟩⟩ else none
  | .all => if h : nm = "all" then some ⟨.inl ⟨"all", by rw [h]; rfl, fun X L hK hu hg hc _ => bm_all hK hc⟩⟩ else none
  | .abs => if h : nm = "abs" then some ⟨.inl ⟨"abs", by rw [h]; rfl, fun X L hK hu hg hc _ => bm_abs⟩⟩ else none
  | .int => if h : nm = "int" then some ⟨.inr ⟨"int", by rw [h]; rfl, fun X L hK hu hg hc _ => bm_int⟩⟩ else none
  | .str => if h : nm = "str" then some ⟨.inr ⟨"str", by rw [h]; rfl, fun X L hK hu hg hc _ => bm_str⟩⟩ else none
  | .repr => if h : nm = "repr" then some ⟨.inl ⟨"repr", by rw [h]; rfl, fun X L hK hu hg hc hsm => bm_repr hsm hK hg (by omega)⟩⟩ else none
  | _ => none
/-- a method of a built-in kind -/
structure BMOk (X : Cx) (L : Lk) (m : BM) (nm : Str) : Prop where
  ex : ∃ T id, TyOf X L m T ∧ PlainAttrs T ∧ Slot T nm id ∧ typeOf (.builtin id) = pure (.type "method_descriptor") ∧ MtR X id (rM L m)
def ckM (m : BM) (nm : Str) : Option (PLift (∀ (X : Cx) (L : Lk), X.K = L.K → X.A.units + 65 < cLine → BMOk X L m nm)) := match m with
  | .append => if h : nm = "append" then some ⟨fun X L hK hu => ⟨"list", "list.append", tyOf_list hK (by simp), PySem.F.plainAttrs_list, by rw [h]; exact PySem.F.slot_list_append, PySem.F.type_list_append, bmm_append⟩⟩ else none
  | .pop => if h : nm = "pop" then some ⟨fun X L hK hu => ⟨"list", "list.pop", tyOf_list hK (by simp), PySem.F.plainAttrs_list, by rw [h]; exact PySem.F.slot_list_pop, PySem.F.type_list_pop, bmm_pop⟩⟩ else none
  | .popAt => if h : nm = "pop" then some ⟨fun X L hK hu => ⟨"list", "list.pop", tyOf_list hK (by simp), PySem.F.plainAttrs_list, by rw [h]; exact PySem.F.slot_list_pop, PySem.F.type_list_pop, bmm_popAt⟩⟩ else none
  | .index => if h : nm = "index" then some ⟨fun X L hK hu => ⟨"list", "list.index", tyOf_list hK (by simp), PySem.F.plainAttrs_list, by rw [h]; exact PySem.F.slot_list_index, PySem.F.type_list_index, bmm_index hK hu⟩⟩ else none
  | .count => if h : nm = "count" then some ⟨fun X L hK hu => ⟨"list", "list.count", tyOf_list hK (by simp), PySem.F.plainAttrs_list, by rw [h]; exact PySem.F.slot_list_count, PySem.F.type_list_count, bmm_count hK hu⟩⟩ else none
  | .split => if h : nm = "split" then some ⟨fun X L hK hu => ⟨"str", "str.split", tyOf_str (by simp), PySem.F.plainAttrs_str, by rw [h]; exact PySem.F.slot_str_split, PySem.F.type_str_split, bmm_split⟩⟩ else none
  | _ => none
end Mi
set_option Elab.async false
set_option linter.all false
set_option maxHeartbeats 1000000
namespace Mi
open PySem PySem.Spec PyProof.Rows L2
section
variable {X : Cx} {L : Lk} {W : WX} {P : Prog} {Φ : Call} {pos p : Pos} {ρ : Rho} {H : Hp} {S : Store}
theorem foldl_max : ∀ (r : List Int) (x : Int), r.foldl max x = r.foldl (fun m y => if m < y then y else m) x
  | [], _ => rfl
  | y :: r, x => by
    rw [List.foldl_cons, List.foldl_cons, foldl_max r]
    congr 1
    rw [Int.max_def]
    split <;> split <;> omega
theorem rds_ints {l : List Int} : RDs L ρ H (l.map D.int) (l.map V.int) := by
  induction l with
  | nil => simpa using RDs.nil
  | cons x r ih => simpa using RDs.cons (by simp) ih
def two1 (f : List D → M D) : List D → List D → M D
  | [x], [y] => f [x, y]
  | _, _ => bad
theorem evs_twoB {a b : E} {η : Env} {f : List D → M D} (h1 : ∀ z, a ≠ .st z) (h2 : ∀ z, b ≠ .st z) : (evs P Φ [a, b] η >>= f) = (evs P Φ [a] η >>= fun vs => evs P Φ [b] η >>= fun zs => two1 f vs zs) := by
  have e : evs P Φ [a, b] η = (do
      let x ← ev P Φ a η
      let ys ← evs P Φ [b] η
      pure (x :: ys)) := by
    cases a <;> first | (exact absurd rfl (h1 _)) | rfl
  rw [e, evs_one h1, evs_one h2]
  funext S
  show M.bind (M.bind _ _) _ S = M.bind (M.bind _ _) _ S
  unfold M.bind
  cases ev P Φ a η S with
  | ok x S1 =>
    show M.bind (M.bind (M.bind _ _) _) _ S1 = M.bind (M.bind _ _) _ S1
    unfold M.bind
    cases ev P Φ b η S1 <;> rfl
  | exc e S1 => rfl
  | bad => rfl
theorem kept_blt {pins : List (Addr × Obj)} {σ : L2.St} {id : String} : Kept X pins σ (.builtin id) := ⟨⟨fun _ => True, fun h _ => ⟨.machine, .inr (.inl rfl), fun A Q E s k q => by
  unfold keeperOf
  exact wpAny_pure q⟩, fun _ _ _ => trivial⟩⟩
theorem dp_ints {K : PySem.W.Frag} {H : Hp} : ∀ {l : List Int}, DpAll K H (l.map V.int) (l.map PyData.int)
  | [] => .nil
  | _ :: _ => .cons (.int _) dp_ints
theorem pm_maxD {xa : Expr} {kw : Keyword} {ea ed : E} (hK : X.K = L.K) (hc : X.calm = true) (hu : X.A.units + 65 < cLine) (hg : Gl X "max") (hm : X.mg "max" = none) (h1 : ∀ z, ea ≠ .st z) (h2 : ∀ z, ed ≠ .st z)
    (sh : ShM X L W P Φ pos [xa] [kw] [ea] ["default"] [ed]) : PE X (.Call (.Name "max" p) [xa] [kw] pos) (tE L W (ev P Φ (.bc .maxD [ea, ed]))) := by
  refine ⟨fun pins s σ H Q I ⟨ρ, S, η, sr, er, po⟩ => ?_⟩
  unfold ev at po
  refine wpAny_Call_Name_kw (ld_blt I hg hm (u := .builtin "max") rfl ?_)
  refine sh _ [] pins _ σ H _ kept_blt I ?_
  rw [evs_twoB h1 h2] at po
  refine first sr er po fun vs H1 ⟨ρ1, S1, ds, x1, s1, r1, p1⟩ => ?_
  refine first s1 (er.mono x1) p1 fun zs H2 ⟨ρ2, S2, es, x2, s2, r2, p2⟩ => ?_
  intro us ws s3 I3 q1 q2
  match ds, es, r1, r2, p2 with
  | [x], [y], r1, r2, p2 =>
    obtain ⟨d, e, k⟩ := Post.pur (f := fun S => bfn .maxD S [x, y]) p2
    obtain ⟨v, rfl, rv⟩ := (r1.mono x2).one
    obtain ⟨z, rfl, rz⟩ := r2.one
    obtain ⟨u, rfl, ru⟩ := vals1 q1
    obtain ⟨w, rfl, rw'⟩ := vals1 q2
    obtain ⟨m, rfl⟩ : ∃ m, y = .int m := by
      cases y <;> first | exact ⟨_, rfl⟩ | (cases x <;> simp [bfn] at e)
    simp only [RD_int] at rz
    subst rz
    obtain ⟨t, rfl⟩ := rw'
    obtain ⟨l, e1⟩ : ∃ l, (listOf S2 x).bind intsOf = some l := by
      cases q : (listOf S2 x).bind intsOf with
      | some l => exact ⟨l, rfl⟩
      | none => simp [bfn, q] at e
    obtain ⟨a, rfl, hq⟩ := ints_at hK I3 s2 rv e1
    cases ru
    obtain ⟨its, rvs, hl, _⟩ := I3.list hq
    obtain ⟨as, rd⟩ := Dp.readsAll I3 (l.map PyData.int) _ its dp_ints rvs
    refine PySem.W.max_list_default (I3.ok.hd hc) hl.isList (by simpa using rd) ⟨fun x hx y hy => by
      obtain ⟨i, _, rfl⟩ := List.mem_map.mp hx
      obtain ⟨j, _, rfl⟩ := List.mem_map.mp hy
      rfl, fun x hx => by
      obtain ⟨i, _, rfl⟩ := List.mem_map.mp hx
      simp⟩ (by rw [PySem.W.depth_ints]; omega) (fun h0 h' tk hk => ?_) (fun y ys i v h' tk bs hxs hv hr hk => ?_)
    · have : l = [] := by simpa using h0
      subst this
      have e : some (D.int m) = some d := by simpa [bfn, e1] using e
      cases e
      exact ⟨.int _, H2, I3.kept hk, ⟨_, rfl⟩, k ρ2 H2 _ (.refl _ _) s2 (by simp)⟩
    · cases l with
      | nil => cases hxs
      | cons n ns =>
        obtain ⟨rfl, rfl⟩ := List.cons.inj hxs
        rw [PySem.W.maxD_ints] at hr
        cases hr
        have e : some (D.int (ns.foldl max n)) = some d := by
          rw [foldl_max]
          simpa [bfn, e1, maxI] using e
        cases e
        exact ⟨.int _, H2, I3.kept hk, ⟨_, rfl⟩, k ρ2 H2 _ (.refl _ _) s2 (by simp)⟩
  | [], _, _, _, p2 => exact p2.elim
  | x :: y :: r, _, _, _, p2 => exact p2.elim
  | [x], [], _, _, p2 => exact p2.elim
  | [x], y :: z :: r, _, _, p2 => exact p2.elim
end
end Mi
set_option Elab.async false
set_option linter.all false
set_option maxHeartbeats 4000000
namespace Mi
open PySem PySem.Spec PyProof.Rows L2
/-- the block's context -/
def relS (scope sc : Scope) : Scope := relabel scope { scope := sc, locals := 0, globals := 0, cells := [], qual := Str.empty, func := none, code := .none, frame := none, builtins := 0 }
theorem relS_eq {scope sc : Scope} {env : PySem.Env} (h : env.scope = sc) : relabel scope env = relS scope sc := by
  subst h
  rfl
def blkCk (c : Ck) (scope : Scope) : Ck := { N := c.N, sc := relS scope c.sc, fnc := fun x => scope.names.lookup x == some .cell, glob := c.glob }
theorem good_blk {c : Ck} {X : Cx} {L : Lk} {W : WX} {P : Prog} {Φ : Call} {fa : Nat → Addr} {n : Nat} {scope : Scope} (g : Good c X L W P Φ fa n) : BlkAll X scope fun Y => Good (blkCk c scope) Y L W0 P Φ fa n := fun s H C cl fp =>
  { hK := g.hK, F := g.F, room := g.room, tk := takes0, ok := g.ok, xok := g.xok, isk := g.isk, smo := g.smo, calm := g.calm, nd := g.nd, N := g.N, sc := relS_eq g.sc, fnc := fun x h => h, gfn := g.gfn, gcls := g.gcls, gcon := g.gcon, gblt := g.gblt }
mutual
def ckG : Nat → (c : Ck) → (x : Expr) → (t : Tg) → Option (PLift (SG c x t))
  | 0, _, _, _ => none
  | k + 1, c, x, .n i => match x with
    | .Name nm p => if h : c.N[i]? = some nm ∧ locB c nm = true then
        some ⟨fun X L W P Φ fa n g => pgm_name g.nd (by rw [g.N]; exact h.1) (by rw [g.sc]; exact (loc_of h.2).1) (by rw [g.sc]; exact (loc_of h.2).2.imp (g.fnc _) id)⟩ else none
    | _ => none
  | k + 1, c, x, .t ts => match x with
    | .Tuple as kk p => match ckGs k c as ts with
      | some q => if h : as.all notStar = true ∧ as.length = ts.length then
          some ⟨fun X L W P Φ fa n g => pgm_tup g.hK g.calm (q.down X L W P Φ fa n g) (by rw [(asgEach_len h.1).1]; exact h.2) (asgEach_len h.1).2⟩ else none
      | none => none
    | _ => none
def ckGs : Nat → (c : Ck) → (xs : List Expr) → (ts : List Tg) → Option (PLift (SGs c xs ts))
  | 0, _, _, _ => none
  | k + 1, c, [], [] => some ⟨fun X L W P Φ fa n g => pgsm_nil⟩
  | k + 1, c, x :: xs, t :: ts => match ckG k c x t, ckGs k c xs ts with
    | some q, some r => if h : notStar x = true then some ⟨fun X L W P Φ fa n g => pgsm_cons (q.down X L W P Φ fa n g) (r.down X L W P Φ fa n g) (by rw [asgEach_cons h]; rfl)⟩ else none
    | _, _ => none
  | _, _, _, _ => none
end
/-- no more than these names in a target -/
def subNs (ns own : List Nat) : Bool := ns.all fun j => decide (j ∈ own)
theorem subNs_of {ns own : List Nat} (h : subNs ns own = true) : ∀ j ∈ ns, j ∈ own := fun j hj => of_decide_eq_true (List.all_eq_true.mp h j hj)
/-- a block's own names in the frame -/
def ownOf (N : List Str) : List Nat → Option (List (Str × Nat))
  | [] => some []
  | i :: r => match N[i]?, ownOf N r with
    | some nm, some l => some ((nm, i) :: l)
    | _, _ => none
theorem ownOf_snd : ∀ {N : List Str} {l : List Nat} {o : List (Str × Nat)}, ownOf N l = some o → o.map (·.2) = l
  | N, [], o, h => by
    simp only [ownOf, Option.some.injEq] at h
    subst h; rfl
  | N, i :: r, o, h => by
    unfold ownOf at h
    cases q1 : N[i]? with
    | none => simp [q1] at h
    | some nm =>
      cases q2 : ownOf N r with
      | none => simp [q1, q2] at h
      | some l =>
        simp only [q1, q2, Option.some.injEq] at h
        subst h
        simp [ownOf_snd q2]
/-- a name that is a built-in's -/
def bltB (c : Ck) (nm : Str) : Bool := decide (c.sc.names.lookup nm = some .globalImplicit) && (decide (c.glob nm = some .blt) && (decide (nm ≠ "__name__") && !(nm == ("__debug__" : Str))))
theorem blt_of {c : Ck} {nm : Str} (h : bltB c nm = true) : c.sc.names.lookup nm = some .globalImplicit ∧ c.glob nm = some .blt ∧ nm ≠ "__name__" ∧ (nm == ("__debug__" : Str)) = false := by
  unfold bltB at h
  simp only [Bool.and_eq_true, decide_eq_true_eq, Bool.not_eq_true'] at h
  exact h
mutual
def ckE : Nat → (c : Ck) → (x : Expr) → (e : E) → Option (PLift (SE c x e))
  | 0, _, _, _ => none
  | k + 1, c, x, .st e => some ⟨fun X L W P Φ fa n g => pm_dead⟩
  | k + 1, c, x, .v i => ckVar c x i
  | k + 1, c, x, .g j => ckCon c x j
  | k + 1, c, x, .c d => ckConst c x d
  | k + 1, c, x, .tup es => match x with
    | .Tuple xs _ _ => match ckA k c xs es with
      | some q => some ⟨fun X L W P Φ fa n g => pm_tup (q.down X L W P Φ fa n g)⟩
      | none => none
    | _ => none
  | k + 1, c, x, .list es => match x with
    | .List xs _ => match ckA k c xs es with
      | some q => some ⟨fun X L W P Φ fa n g => pm_list (q.down X L W P Φ fa n g)⟩
      | none => none
    | _ => none
  | k + 1, c, x, .mlist es => match x with
    | .List xs _ => match ckA k c xs es with
      | some q => some ⟨fun X L W P Φ fa n g => pm_mlist (q.down X L W P Φ fa n g)⟩
      | none => none
    | _ => none
  | k + 1, c, x, .mdictT => match x with
    | .Dict [] [] _ => some ⟨fun X L W P Φ fa n g => pm_mdictT⟩
    | _ => none
  | k + 1, c, x, .edict => match x with
    | .Dict [] [] _ => some ⟨fun X L W P Φ fa n g => pm_edict⟩
    | _ => none
  | k + 1, c, x, .mdict es => match es, x with
    | [], .Dict [] [] _ => some ⟨fun X L W P Φ fa n g => pm_disp0⟩
    | es, .Dict (a :: ks) vs p => match ckP k c p (a :: ks) vs es with
      | some q => if h : (a :: ks).all (·.isSome) = true ∧ (a :: ks).length = vs.length ∧ (a :: ks).length ≤ 15 then some ⟨fun X L W P Φ fa n g => pm_disp (q.down X L W P Φ fa n g) h.1 h.2.1 (by simp) h.2.2⟩ else none
      | none => none
    | _, _ => none
  | k + 1, c, x, .bin o a b => match x with
    | .BinOp xa op xb _ => match ckBOp o op, ckE k c xa a, ckE k c xb b with
      | some r, some p, some q => some ⟨fun X L W P Φ fa n g => pm_bin (r.down X L g.hK) (p.down X L W P Φ fa n g) (q.down X L W P Φ fa n g)⟩
      | _, _, _ => none
    | _ => none
  | k + 1, c, x, .mulm a b => match x with
    | .BinOp xa .Mult xb _ => match ckE k c xa a, ckE k c xb b with
      | some p, some q => some ⟨fun X L W P Φ fa n g => pm_mulm g.hK (p.down X L W P Φ fa n g) (q.down X L W P Φ fa n g)⟩
      | _, _ => none
    | _ => none
  | k + 1, c, x, .addm a b => match x with
    | .BinOp xa .Add xb _ => match ckE k c xa a, ckE k c xb b with
      | some p, some q => some ⟨fun X L W P Φ fa n g => pm_addm g.hK (p.down X L W P Φ fa n g) (q.down X L W P Φ fa n g)⟩
      | _, _ => none
    | _ => none
  | k + 1, c, x, .rngm a => match x with
    | .Call (.Name n1 _) [.Call (.Name n2 _) [xa] [] _] [] _ => match ckE k c xa a with
      | some p => if h : n1 = "list" ∧ n2 = "range" ∧ bltB c n1 = true ∧ bltB c n2 = true ∧ notStar xa = true then
          some ⟨fun X L W P Φ fa n g => by
            obtain ⟨rfl, rfl, h3, h4, h5⟩ := h
            exact pm_rngm g.calm (g.gl (blt_of h3).1) (g.gblt _ (blt_of h3).2.1) (g.gl (blt_of h4).1) (g.gblt _ (blt_of h4).2.1) (p.down X L W P Φ fa n g) (starEach_cons h5) (starEach_cons rfl)⟩ else none
      | none => none
    | _ => none
  | k + 1, c, x, .neg a => match x with
    | .UnaryOp .USub xa _ => match ckE k c xa a with
      | some p => some ⟨fun X L W P Φ fa n g => pm_neg (p.down X L W P Φ fa n g)⟩
      | none => none
    | _ => none
  | k + 1, c, x, .not_ a => match x with
    | .UnaryOp .Not xa _ => match ckE k c xa a with
      | some p => some ⟨fun X L W P Φ fa n g => pm_not (p.down X L W P Φ fa n g)⟩
      | none => none
    | _ => none
  | k + 1, c, x, .cmp o a b => match x with
    | .Compare xa [op] [xb] _ => match ckCOp o op, ckE k c xa a, ckE k c xb b with
      | some r, some p, some q => if h : behindInMarks op xb = false then some ⟨fun X L W P Φ fa n g => pm_cmp (r.down X L g.hK g.u64) (p.down X L W P Φ fa n g) (q.down X L W P Φ fa n g) h⟩ else none
      | _, _, _ => none
    | _ => none
  | k + 1, c, x, .cmp2 o o2 a b d => match x with
    | .Compare xa [op, op2] [xb, xd] _ => match ckCOp o op, ckCOp o2 op2, ckE k c xa a, ckE k c xb b, ckE k c xd d with
      | some r, some r2, some p, some q, some s => if h : lastMarks [op, op2] [xb, xd] = false then some ⟨fun X L W P Φ fa n g => pm_cmp2 (r.down X L g.hK g.u64) (r2.down X L g.hK g.u64) (p.down X L W P Φ fa n g) (q.down X L W P Φ fa n g) (s.down X L W P Φ fa n g) h⟩ else none
      | _, _, _, _, _ => none
    | _ => none
  | k + 1, c, x, .isN pos a => match x with
    | .Compare xa [.Is] [.Constant .none _ _] _ => match pos, ckE k c xa a with
      | true, some p => some ⟨fun X L W P Φ fa n g => pm_isN (p.down X L W P Φ fa n g)⟩
      | _, _ => none
    | .Compare xa [.IsNot] [.Constant .none _ _] _ => match pos, ckE k c xa a with
      | false, some p => some ⟨fun X L W P Φ fa n g => pm_notN (p.down X L W P Φ fa n g)⟩
      | _, _ => none
    | _ => none
  | k + 1, c, x, .isB pos b a => match x with
    | .Compare xa [.Is] [.Constant (.bool z) _ _] _ => match pos, ckE k c xa a with
      | true, some p => if h : z = b then some ⟨fun X L W P Φ fa n g => by rw [h]; exact pm_isB (p.down X L W P Φ fa n g)⟩ else none
      | _, _ => none
    | .Compare xa [.IsNot] [.Constant (.bool z) _ _] _ => match pos, ckE k c xa a with
      | false, some p => if h : z = b then some ⟨fun X L W P Φ fa n g => by rw [h]; exact pm_notB (p.down X L W P Φ fa n g)⟩ else none
      | _, _ => none
    | _ => none
  | k + 1, c, x, .eqE a => match x with
    | .Compare xa [.Eq] [.Tuple [] kt pt] _ => match ckE k c xa a with
      | some p => if h : behindInMarks .Eq (.Tuple [] kt pt) = false then some ⟨fun X L W P Φ fa n g => pm_eqE g.hK (by have := g.u64; omega) (p.down X L W P Φ fa n g) (pm_tup pm_nil) h⟩ else none
      | none => none
    | _ => none
  | k + 1, c, x, .and_ es => match x with
    | .BoolOp .And xs p => match ckAnd k c p xs es with
      | some q => some ⟨fun X L W P Φ fa n g => (q.down X L W P Φ fa n g).imp fun σ H Q ⟨ρ, S, η, sr, er, po⟩ => ⟨ρ, S, η, sr, er, by unfold ev at po; exact po⟩⟩
      | none => none
    | _ => none
  | k + 1, c, x, .or_ es => match x with
    | .BoolOp .Or xs p => match ckOr k c p xs es with
      | some q => some ⟨fun X L W P Φ fa n g => (q.down X L W P Φ fa n g).imp fun σ H Q ⟨ρ, S, η, sr, er, po⟩ => ⟨ρ, S, η, sr, er, by unfold ev at po; exact po⟩⟩
      | none => none
    | _ => none
  | k + 1, c, x, .ite t a b => match x with
    | .IfExp xt xa xb _ => match ckT k c xt t, ckE k c xa a, ckE k c xb b with
      | some r, some p, some q => some ⟨fun X L W P Φ fa n g => pm_ite (r.down X L W P Φ fa n g) (p.down X L W P Φ fa n g) (q.down X L W P Φ fa n g)⟩
      | _, _, _ => none
    | _ => none
  | k + 1, c, x, .ix a b => match x with
    | .Subscript xa xb _ => match ckE k c xa a, ckE k c xb b with
      | some p, some q => if h : notSlice xb = true then some ⟨fun X L W P Φ fa n g => pm_ix (om_ix g.hK g.u64) (p.down X L W P Φ fa n g) (q.down X L W P Φ fa n g) (plainIx h)⟩ else none
      | _, _ => none
    | _ => none
  | k + 1, c, x, .sl a lo hi => match x with
    | .Subscript xa (.Slice xl xh none _) _ => match ckE k c xa a, ckO k c xl lo, ckO k c xh hi with
      | some p, some q, some r => some ⟨fun X L W P Φ fa n g => pm_sl (om_sl g.hK) (p.down X L W P Φ fa n g) (q.down X L W P Φ fa n g) (r.down X L W P Φ fa n g)⟩
      | _, _, _ => none
    | _ => none
  | k + 1, c, x, .slm a lo hi => match x with
    | .Subscript xa (.Slice xl xh none _) _ => match ckE k c xa a, ckO k c xl lo, ckO k c xh hi with
      | some p, some q, some r => some ⟨fun X L W P Φ fa n g => pm_slm g.hK (p.down X L W P Φ fa n g) (q.down X L W P Φ fa n g) (r.down X L W P Φ fa n g)⟩
      | _, _, _ => none
    | _ => none
  | k + 1, c, x, .rev a => match x with
    | .Subscript xa (.Slice none none (some (.UnaryOp .USub (.Constant (.int 1) _ _) _)) _) _ => match ckE k c xa a with
      | some p => some ⟨fun X L W P Φ fa n g => pm_rev g.hK (p.down X L W P Φ fa n g)⟩
      | none => none
    | _ => none
  | k + 1, c, x, .attr a f => match x with
    | .Attribute xa f' _ => match ckE k c xa a with
      | some p => if h : f' = f ∧ notCall0 xa = true then some ⟨fun X L W P Φ fa n g => by rw [h.1]; exact pm_attr g.xok.get g.F g.hK g.room g.tk g.ok (p.down X L W P Φ fa n g) (attr_plain h.2)⟩ else none
      | none => none
    | _ => none
  | k + 1, c, x, .cattr cl f => match x with
    | .Attribute xa f' _ => match ckCls c xa cl with
      | some p => if h : f' = f ∧ notCall0 xa = true then some ⟨fun X L W P Φ fa n g => by rw [h.1]; exact pm_cattr g.ok (p.down X L W P Φ fa n g) (attr_plain h.2)⟩ else none
      | none => none
    | _ => none
  | k + 1, c, x, .call f es ks kes => match x with
    | .Call (.Name nm _) xs kws p => match ckSh k c p xs kws es ks kes with
      | some q => if h : c.sc.names.lookup nm = some .globalImplicit ∧ c.glob nm = some (.fn f) ∧ (nm == ("__debug__" : Str)) = false then
          some ⟨fun X L W P Φ fa n g => pm_call g.F g.hK g.room g.tk (g.gl h.1) (g.gfn _ _ h.2.1).1 (g.gfn _ _ h.2.1).2 h.2.2 (q.down X L W P Φ fa n g)⟩ else none
      | none => none
    | _ => none
  | k + 1, c, x, .bc b es => match b, x with
    | .maxD, .Call (.Name n1 _) [xa] [kw] p => match es with
      | [a, d] => match ckSh k c p [xa] [kw] [a] ["default"] [d] with
        | some q => if h : n1 = "max" ∧ bltB c n1 = true ∧ notSt a = true ∧ notSt d = true then
            some ⟨fun X L W P Φ fa n g => by
              obtain ⟨rfl, h3, h4, h5⟩ := h
              exact pm_maxD g.hK g.calm g.u64 (g.gl (blt_of h3).1) (g.gblt _ (blt_of h3).2.1) (notSt_of h4) (notSt_of h5) (q.down X L W P Φ fa n g)⟩ else none
        | none => none
      | _ => none
    | .listRange, .Call (.Name n1 _) [.Call (.Name n2 _) [xa] [] _] [] _ => match es with
      | [a] => match ckE k c xa a with
        | some p => if h : n1 = "list" ∧ n2 = "range" ∧ bltB c n1 = true ∧ bltB c n2 = true ∧ notStar xa = true ∧ notSt a = true then
            some ⟨fun X L W P Φ fa n g => by
              obtain ⟨rfl, rfl, h3, h4, h5, h6⟩ := h
              exact pm_listRg1 g.calm (g.gl (blt_of h3).1) (g.gblt _ (blt_of h3).2.1) (g.gl (blt_of h4).1) (g.gblt _ (blt_of h4).2.1) (p.down X L W P Φ fa n g) (notSt_of h6) (starEach_cons h5) (starEach_cons rfl)⟩ else none
        | none => none
      | _ => none
    | .listRange, .Call (.Name n1 _) [.Call (.Name n2 _) [xa, xb] [] _] [] _ => match es with
      | [a, b] => match ckE k c xa a, ckE k c xb b with
        | some p, some q => if h : n1 = "list" ∧ n2 = "range" ∧ bltB c n1 = true ∧ bltB c n2 = true ∧ notStar xa = true ∧ notSt a = true ∧ notStar xb = true ∧ notSt b = true then
            some ⟨fun X L W P Φ fa n g => by
              obtain ⟨rfl, rfl, h3, h4, h5, h6, h7, h8⟩ := h
              exact pm_listRg2 g.calm (g.gl (blt_of h3).1) (g.gblt _ (blt_of h3).2.1) (g.gl (blt_of h4).1) (g.gblt _ (blt_of h4).2.1) (p.down X L W P Φ fa n g) (q.down X L W P Φ fa n g) (notSt_of h6) (notSt_of h8) (starEach_cons h5) (starEach_cons h7) (plain_any (by simp [h7])) (starEach_cons rfl)⟩ else none
        | _, _ => none
      | _ => none
    | .tupRange, .Call (.Name n1 _) [.Call (.Name n2 _) [xa, xb] [] _] [] _ => match es with
      | [a, b] => match ckE k c xa a, ckE k c xb b with
        | some p, some q => if h : n1 = "tuple" ∧ n2 = "range" ∧ bltB c n1 = true ∧ bltB c n2 = true ∧ notStar xa = true ∧ notSt a = true ∧ notStar xb = true ∧ notSt b = true then
            some ⟨fun X L W P Φ fa n g => by
              obtain ⟨rfl, rfl, h3, h4, h5, h6, h7, h8⟩ := h
              exact pm_tupRg2 g.calm (g.gl (blt_of h3).1) (g.gblt _ (blt_of h3).2.1) (g.gl (blt_of h4).1) (g.gblt _ (blt_of h4).2.1) (p.down X L W P Φ fa n g) (q.down X L W P Φ fa n g) (notSt_of h6) (notSt_of h8) (starEach_cons h5) (starEach_cons h7) (plain_any (by simp [h7])) (starEach_cons rfl)⟩ else none
        | _, _ => none
      | _ => none
    | .lenSet, .Call (.Name n1 _) [.Call (.Name n2 _) [xa] [] _] [] _ => match es with
      | [a] => match ckE k c xa a with
        | some p => if h : n1 = "len" ∧ n2 = "set" ∧ bltB c n1 = true ∧ bltB c n2 = true ∧ notStar xa = true ∧ notSt a = true then
            some ⟨fun X L W P Φ fa n g => by
              obtain ⟨rfl, rfl, h3, h4, h5, h6⟩ := h
              exact pm_lenSet g.hK g.calm (g.gl (blt_of h3).1) (g.gblt _ (blt_of h3).2.1) (g.gl (blt_of h4).1) (g.gblt _ (blt_of h4).2.1) (p.down X L W P Φ fa n g) (notSt_of h6) (starEach_cons h5)⟩ else none
        | none => none
      | _ => none
    | b, .Call (.Name nm _) (xa :: xs) [] p => match ckB b nm, ckA k c (xa :: xs) es with
      | some r, some q => if h : bltB c nm = true ∧ (xa :: xs).all notStar = true then
          some ⟨fun X L W P Φ fa n g => by
            obtain ⟨h1, h2⟩ := h
            obtain ⟨b1, b2, b3, b4⟩ := blt_of h1
            simp only [List.all_cons, Bool.and_eq_true] at h2
            rcases r.down with ⟨id, hv, hr⟩ | ⟨T, hv, hr⟩
            · exact pm_bc (hr X L g.hK g.u64 g.gu g.calm g.smo.sys) (g.gl b1) (g.gblt _ b2) hv (q.down X L W P Φ fa n g) b3 b4 (starEach_cons h2.1) (plain_any h2.2)
            · exact pm_bcT (hr X L g.hK g.u64 g.gu g.calm g.smo.sys) (g.gl b1) (g.gblt _ b2) hv (q.down X L W P Φ fa n g) b3 b4 (starEach_cons h2.1) (plain_any h2.2)⟩ else none
      | _, _ => none
    | _, _ => none
  | k + 1, c, x, .isi a ts => match x, ts with
    | .Call (.Name nm _) [xa, xc] [] _, [.cls cl] => match ckE k c xa a, ckCls c xc cl with
      | some p, some r => if h : nm = "isinstance" ∧ bltB c nm = true ∧ notStar xa = true ∧ notStar xc = true then
          some ⟨fun X L W P Φ fa n g => by
            obtain ⟨rfl, h2, h5, h6⟩ := h
            obtain ⟨b1, b2, b3, b4⟩ := blt_of h2
            exact pm_isiC g.hK g.isk (g.gl b1) (g.gblt _ b2) (p.down X L W P Φ fa n g) (r.down X L W P Φ fa n g) (starEach_cons h5) (starEach_cons h6) (plain_any (by simp [h6]))⟩ else none
      | _, _ => none
    | .Call (.Name nm _) [xa, .Name ty _] [] _, [.b t] => match ckE k c xa a with
      | some p => if h : nm = "isinstance" ∧ bltB c nm = true ∧ bltB c ty = true ∧ bootBuiltins ty = some (.type t) ∧ notStar xa = true then
          some ⟨fun X L W P Φ fa n g => by
            obtain ⟨rfl, h2, h3, h4, h5⟩ := h
            obtain ⟨b1, b2, b3, b4⟩ := blt_of h2
            obtain ⟨c1, c2, c3, c4⟩ := blt_of h3
            exact pm_isi1 g.hK (g.gl b1) (g.gblt _ b2) (p.down X L W P Φ fa n g) (pe_bltn (g.gl c1) (g.gblt _ c2) h4 rfl c3 c4) (starEach_cons h5) (starEach_cons rfl) (plain_any rfl)⟩ else none
      | none => none
    | _, _ => none
  | k + 1, c, x, .meth a m es ks kes => match x with
    | .Call (.Attribute xa m' ap) xs kws p => match ckE k c xa a, ckSh k c p xs kws es ks kes with
      | some q, some r => if h : m' = m ∧ notCall0 xa = true ∧ xs.all notStar = true ∧ (kwNames kws).isSome = true ∧ xs.length + kws.length + (if kws.isEmpty then 0 else 1) < 30 ∧ (ap.endLine == p.line) = true then
          some ⟨fun X L W P Φ fa n g => by
            obtain ⟨h1, h2, h3, h4, h5, h6⟩ := h
            obtain ⟨ks', h4⟩ := Option.isSome_iff_exists.mp h4
            rw [h1]
            exact pm_meth g.F g.hK g.room g.tk g.ok (q.down X L W P Φ fa n g) (r.down X L W P Φ fa n g) (meth_form h2 h3 h4 h5 h6)⟩ else none
      | _, _ => none
    | _ => none
  | k + 1, c, x, .bm m a es => match x with
    | .Call (.Attribute xa nm ap) [] [] p => match es, ckM m nm, ckE k c xa a with
      | [], some r, some q => if h : notCall0 xa = true ∧ (ap.endLine == p.line) = true then
          some ⟨fun X L W P Φ fa n g => by
            obtain ⟨T, id, h1, h2, h3, h4, h5⟩ := (r.down X L g.hK g.u64).ex
            exact pm_bm0 h1 h2 h3 h4 h5 (q.down X L W P Φ fa n g) (attr_plain h.1) h.2⟩ else none
      | _, _, _ => none
    | .Call (.Attribute xa nm ap) (y :: ys) [] p => match ckM m nm, ckE k c xa a, ckA k c (y :: ys) es with
      | some r, some q, some s => if h : notCall0 xa = true ∧ (ap.endLine == p.line) = true ∧ (y :: ys).all notStar = true ∧ (y :: ys).length < 30 then
          some ⟨fun X L W P Φ fa n g => by
            obtain ⟨T, id, h1, h2, h3, h4, h5⟩ := (r.down X L g.hK g.u64).ex
            have h6 := h.2.2.1
            simp only [List.all_cons, Bool.and_eq_true] at h6
            exact pm_bm h1 h2 h3 h4 h5 (q.down X L W P Φ fa n g) (s.down X L W P Φ fa n g) (attr_plain h.1) (few_ok h.2.2.1 h.2.2.2) h.2.1 (starEach_cons h6.1) (plain_any h6.2)⟩ else none
      | _, _, _ => none
    | _ => none
  | k + 1, c, x, .cm cl m es ks kes => match x with
    | .Call (.Attribute xa m' ap) xs kws p => match ckCls c xa cl, ckSh k c p xs kws es ks kes with
      | some q, some r => if h : m' = m ∧ notCall0 xa = true ∧ xs.all notStar = true ∧ (kwNames kws).isSome = true ∧ xs.length + kws.length + (if kws.isEmpty then 0 else 1) < 30 ∧ (ap.endLine == p.line) = true then
          some ⟨fun X L W P Φ fa n g => by
            obtain ⟨h1, h2, h3, h4, h5, h6⟩ := h
            obtain ⟨ks', h4⟩ := Option.isSome_iff_exists.mp h4
            rw [h1]
            exact pm_cm g.F g.hK g.room g.tk g.ok (q.down X L W P Φ fa n g) (r.down X L W P Φ fa n g) (meth_form h2 h3 h4 h5 h6)⟩ else none
      | _, _ => none
    | _ => none
  | k + 1, c, x, .cs cl m es ks kes => match x with
    | .Call (.Attribute xa m' ap) xs kws p => match ckCls c xa cl, ckSh k c p xs kws es ks kes with
      | some q, some r => if h : m' = m ∧ notCall0 xa = true ∧ xs.all notStar = true ∧ (kwNames kws).isSome = true ∧ xs.length + kws.length + (if kws.isEmpty then 0 else 1) < 30 ∧ (ap.endLine == p.line) = true then
          some ⟨fun X L W P Φ fa n g => by
            obtain ⟨h1, h2, h3, h4, h5, h6⟩ := h
            obtain ⟨ks', h4⟩ := Option.isSome_iff_exists.mp h4
            rw [h1]
            exact pm_cs g.F g.hK g.room g.tk g.smo (q.down X L W P Φ fa n g) (r.down X L W P Φ fa n g) (meth_form h2 h3 h4 h5 h6)⟩ else none
      | _, _ => none
    | _ => none
  | k + 1, c, x, .cmv a m es ks kes => match x with
    | .Call (.Attribute xa m' ap) xs kws p => match ckE k c xa a, ckSh k c p xs kws es ks kes with
      | some q, some r => if h : m' = m ∧ notCall0 xa = true ∧ xs.all notStar = true ∧ (kwNames kws).isSome = true ∧ xs.length + kws.length + (if kws.isEmpty then 0 else 1) < 30 ∧ (ap.endLine == p.line) = true then
          some ⟨fun X L W P Φ fa n g => by
            obtain ⟨h1, h2, h3, h4, h5, h6⟩ := h
            obtain ⟨ks', h4⟩ := Option.isSome_iff_exists.mp h4
            rw [h1]
            exact pm_cmv g.F g.hK g.room g.tk g.ok (q.down X L W P Φ fa n g) (r.down X L W P Φ fa n g) (meth_form h2 h3 h4 h5 h6)⟩ else none
      | _, _ => none
    | _ => none
  | k + 1, c, x, .mk fz cl es ks kes => match x with
    | .Call (.Name nm _) xs kws p => match ckSh k c p xs kws es ks kes with
      | some q => if h : c.sc.names.lookup nm = some .globalImplicit ∧ c.glob nm = some (.cls cl) ∧ (nm == ("__debug__" : Str)) = false then
          some ⟨fun X L W P Φ fa n g => pm_mk g.F g.hK g.room g.tk g.ok (g.gl h.1) (g.gcls _ _ h.2.1).1 (g.gcls _ _ h.2.1).2 h.2.2 (q.down X L W P Φ fa n g)⟩ else none
      | none => none
    | _ => none
  | k + 1, c, x, .mkv fz a es => match x with
    | .Call (.Name nm p0) xs [] p => match ckE k c (.Name nm p0) a, ckSh k c p xs [] es [] [] with
      | some r, some q => some ⟨fun X L W P Φ fa n g => pm_mkv g.F g.hK g.room g.tk g.ok (r.down X L W P Φ fa n g) (q.down X L W P Φ fa n g)⟩
      | _, _ => none
    | _ => none
  | k + 1, c, x, .fz a => match ckE k c x a with
    | some p => some ⟨fun X L W P Φ fa n g => pm_fz (p.down X L W P Φ fa n g)⟩
    | none => none
  | k + 1, c, x, .lc mu own kk ia tg cond elt => match x with
    | .ListComp xe [⟨xt, xi, ifs, 0⟩] scope p => match ownOf c.N own, ckI k c xt xi kk ia, ckG k (blkCk c scope) xt tg, ckC k (blkCk c scope) ifs cond, ckE k (blkCk c scope) xe elt with
      | some o, some qi, some qg, some qc, some qe => if h : ownOf c.N own = some o ∧ blkC c.N c.sc scope o = true ∧ subNs (tgNs tg) own = true ∧ notSet xi = true then
          some ⟨fun X L W P Φ fa n g => by
            obtain ⟨h1, h2, h3, h4⟩ := h
            have e := ownOf_snd h1
            have z := pm_lc (own := o) (mu := mu) (pos := p) g.calm g.nd (qi.down X L W P Φ fa n g) (by rw [g.N, g.sc]; exact blkOk_by h2) (fun s H C cl fp => qg.down _ L W0 P Φ fa n (good_blk g s H C cl fp)) (fun s H C cl fp => qc.down _ L W0 P Φ fa n (good_blk g s H C cl fp)) (fun s H C cl fp => qe.down _ L W0 P Φ fa n (good_blk g s H C cl fp)) (folded_plain h4) (by rw [e]; exact subNs_of h3)
            rw [e] at z
            exact z⟩ else none
      | _, _, _, _, _ => none
    | _ => none
  | k + 1, c, x, .lc2 own kk ia tg cond kk2 ia2 own2 tg2 cond2 elt => match x with
    | .ListComp xe [⟨xt, xi, ifs, 0⟩, ⟨xt2, xi2, ifs2, 0⟩] scope p => match ownOf c.N own, ckI k c xt xi kk ia, ckG k (blkCk c scope) xt tg, ckC k (blkCk c scope) ifs cond, ckI k (blkCk c scope) xt2 xi2 kk2 ia2, ckG k (blkCk c scope) xt2 tg2, ckC k (blkCk c scope) ifs2 cond2, ckE k (blkCk c scope) xe elt with
      | some o, some qi, some qg, some qc, some qi2, some qg2, some qc2, some qe => if h : ownOf c.N own = some o ∧ blkC c.N c.sc scope o = true ∧ subNs (tgNs tg) own = true ∧ notSet xi = true ∧ subNs own2 own = true ∧ subNs (tgNs tg2) own2 = true ∧ notSet xi2 = true then
          some ⟨fun X L W P Φ fa n g => by
            obtain ⟨h1, h2, h3, h4, h5, h6, h7⟩ := h
            have e := ownOf_snd h1
            have z := pm_lc2 (own := o) (pos := p) g.calm g.nd (qi.down X L W P Φ fa n g) (by rw [g.N, g.sc]; exact blkOk_by h2) (by rw [e]; exact subNs_of h5) (fun s H C cl fp => qg.down _ L W0 P Φ fa n (good_blk g s H C cl fp)) (fun s H C cl fp => qc.down _ L W0 P Φ fa n (good_blk g s H C cl fp)) (fun s H C cl fp => qi2.down _ L W0 P Φ fa n (good_blk g s H C cl fp)) (fun s H C cl fp => qg2.down _ L W0 P Φ fa n (good_blk g s H C cl fp)) (fun s H C cl fp => qc2.down _ L W0 P Φ fa n (good_blk g s H C cl fp)) (fun s H C cl fp => qe.down _ L W0 P Φ fa n (good_blk g s H C cl fp)) (folded_plain h4) (fun env => folded_plain h7) (by rw [e]; exact subNs_of h3) (subNs_of h6)
            rw [e] at z
            exact z⟩ else none
      | _, _, _, _, _, _, _, _ => none
    | _ => none
  | _, _, _, _ => none
def ckC : Nat → (c : Ck) → (xs : List Expr) → (es : List E) → Option (PLift (∀ X L W P Φ fa n, Good c X L W P Φ fa n → PTs X xs (tT L W (evTests P Φ es))))
  | 0, _, _, _ => none
  | k + 1, c, [], [] => some ⟨fun X L W P Φ fa n g => ptsm_nil⟩
  | k + 1, c, [x], [e] => match ckT k c x e with
    | some q => some ⟨fun X L W P Φ fa n g => ptsm_one (q.down X L W P Φ fa n g)⟩
    | none => none
  | _, _, _, _ => none
def ckO : Nat → (c : Ck) → (x : Option Expr) → (e : E) → Option (PLift (SO c x e))
  | 0, _, _, _ => none
  | k + 1, c, none, e => match e with
    | .c .none => some ⟨fun X L W P Φ fa n g => po_mnone⟩
    | _ => none
  | k + 1, c, some x, e => match ckE k c x e with
    | some q => if h : (match e with | .c .none => false | _ => true) = true then some ⟨fun X L W P Φ fa n g => po_msome (q.down X L W P Φ fa n g) (by rintro rfl; cases h)⟩ else none
    | none => none
def ckA : Nat → (c : Ck) → (xs : List Expr) → (es : List E) → Option (PLift (SA c xs es))
  | 0, _, _, _ => none
  | k + 1, c, [], [] => some ⟨fun X L W P Φ fa n g => pm_nil⟩
  | k + 1, c, x :: xs, e :: es => match x, e with
    | .Starred y _, .st e' => match ckE k c y e', ckA k c xs es with
      | some p, some q => some ⟨fun X L W P Φ fa n g => pam_star g.hK (p.down X L W P Φ fa n g) (q.down X L W P Φ fa n g) rfl⟩
      | _, _ => none
    | x, e => match ckE k c x e, ckA k c xs es with
      | some p, some q => if h : notStar x = true ∧ notSt e = true then some ⟨fun X L W P Φ fa n g => pm_cons (p.down X L W P Φ fa n g) (q.down X L W P Φ fa n g) (starEach_cons h.1) (notSt_of h.2)⟩ else none
      | _, _ => none
  | _, _, _, _ => none
def ckK : Nat → (c : Ck) → (kws : List Keyword) → (es : List E) → Option (PLift (SK c kws es))
  | 0, _, _, _ => none
  | k + 1, c, [], [] => some ⟨fun X L W P Φ fa n g => pkm_nil⟩
  | k + 1, c, ⟨nm, x, kp⟩ :: r, e :: es => match ckE k c x e, ckK k c r es with
    | some p, some q => if h : notSt e = true then some ⟨fun X L W P Φ fa n g => pkm_cons (p.down X L W P Φ fa n g) (q.down X L W P Φ fa n g) (notSt_of h)⟩ else none
    | _, _ => none
  | _, _, _, _ => none
def ckP : Nat → (c : Ck) → (pos : Pos) → (ks : List (Option Expr)) → (vs : List Expr) → (es : List E) → Option (PLift (SP' c pos ks vs es))
  | 0, _, _, _, _, _ => none
  | k + 1, c, pos, [], [], [] => some ⟨fun X L W P Φ fa n g => ppm_nil⟩
  | k + 1, c, pos, some a :: ks, b :: vs, ea :: eb :: es => match ckE k c a ea, ckE k c b eb, ckP k c pos ks vs es with
    | some p, some q, some r => if h : notSt ea = true ∧ notSt eb = true then some ⟨fun X L W P Φ fa n g => ppm_cons (p.down X L W P Φ fa n g) (q.down X L W P Φ fa n g) (r.down X L W P Φ fa n g) (notSt_of h.1) (notSt_of h.2)⟩ else none
    | _, _, _ => none
  | _, _, _, _, _, _ => none
def ckSh : Nat → (c : Ck) → (pos : Pos) → (xs : List Expr) → (kws : List Keyword) → (es : List E) → (ks : List Str) → (kes : List E) → Option (PLift (SSh c pos xs kws es ks kes))
  | 0, _, _, _, _, _, _, _ => none
  | k + 1, c, pos, [], [], [], [], [] => some ⟨fun X L W P Φ fa n g => shm_0⟩
  | k + 1, c, pos, [.Starred y _], [], [.st e], [], [] => match ckE k c y e with
    | some p => some ⟨fun X L W P Φ fa n g => shm_s g.hK (p.down X L W P Φ fa n g) rfl⟩
    | none => none
  | k + 1, c, pos, x :: xs, [], es, [], [] => match ckA k c (x :: xs) es with
    | some p => if h : notStar x = true then
        (if h2 : xs.all notStar = true then some ⟨fun X L W P Φ fa n g => shm_p (p.down X L W P Φ fa n g) (starEach_cons h) (plain_any h2)⟩
        else some ⟨fun X L W P Φ fa n g => shm_s2 (p.down X L W P Φ fa n g) (starEach_cons h) (star_any (by simpa using h2))⟩) else none
    | none => none
  | k + 1, c, pos, x :: xs, kw :: kws, es, ks, kes => match ckA k c (x :: xs) es, ckK k c (kw :: kws) kes with
    | some p, some q => if h : (x :: xs).all notStar = true ∧ kwNames (kw :: kws) = some ks then some ⟨fun X L W P Φ fa n g => by
        obtain ⟨h1, h2⟩ := h
        obtain ⟨k1, k2, k3⟩ := kw_all (env := X.env) (pos := pos) h2
        have h3 := h1
        simp only [List.all_cons, Bool.and_eq_true] at h3
        exact shm_kw (p.down X L W P Φ fa n g) (q.down X L W P Φ fa n g) k1 k2 (starEach_cons h3.1) (by rw [plain_any h1, k3]; rfl)⟩ else none
    | _, _ => none
  | k + 1, c, pos, [], kw :: kws, [], ks, kes => match ckK k c (kw :: kws) kes with
    | some q => if h : kwNames (kw :: kws) = some ks then some ⟨fun X L W P Φ fa n g => by
        obtain ⟨k1, k2, k3⟩ := kw_all (env := X.env) (pos := pos) h
        exact shm_kw0 (q.down X L W P Φ fa n g) k1 k2 (by rw [k3]; rfl)⟩ else none
    | none => none
  | _, _, _, _, _, _, _, _ => none
def ckAnd : Nat → (c : Ck) → (pos : Pos) → (xs : List Expr) → (es : List E) → Option (PLift (SAnd c pos xs es))
  | 0, _, _, _, _ => none
  | k + 1, c, pos, [x], [e] => match ckE k c x e with
    | some p => some ⟨fun X L W P Φ fa n g => pm_and1 (p.down X L W P Φ fa n g)⟩
    | none => none
  | k + 1, c, pos, x :: y :: xs, e :: e2 :: es => match ckE k c x e, ckAnd k c pos (y :: xs) (e2 :: es) with
    | some p, some q => some ⟨fun X L W P Φ fa n g => pm_and (p.down X L W P Φ fa n g) (q.down X L W P Φ fa n g)⟩
    | _, _ => none
  | _, _, _, _, _ => none
def ckOr : Nat → (c : Ck) → (pos : Pos) → (xs : List Expr) → (es : List E) → Option (PLift (SOr c pos xs es))
  | 0, _, _, _, _ => none
  | k + 1, c, pos, [x], [e] => match ckE k c x e with
    | some p => some ⟨fun X L W P Φ fa n g => pm_or1 (p.down X L W P Φ fa n g)⟩
    | none => none
  | k + 1, c, pos, x :: y :: xs, e :: e2 :: es => match ckE k c x e, ckOr k c pos (y :: xs) (e2 :: es) with
    | some p, some q => some ⟨fun X L W P Φ fa n g => pm_or (p.down X L W P Φ fa n g) (q.down X L W P Φ fa n g)⟩
    | _, _ => none
  | _, _, _, _, _ => none
def ckT : Nat → (c : Ck) → (x : Expr) → (e : E) → Option (PLift (ST c x e))
  | 0, _, _, _ => none
  | k + 1, c, x, .st e => some ⟨fun X L W P Φ fa n g => pt_dead⟩
  | k + 1, c, x, .not_ a => match x with
    | .UnaryOp .Not xa _ => match ckT k c xa a with
      | some p => some ⟨fun X L W P Φ fa n g => pt_mnot (p.down X L W P Φ fa n g)⟩
      | none => none
    | _ => none
  | k + 1, c, x, .and_ es => match x with
    | .BoolOp .And xs p => match ckAndT k c p xs es with
      | some q => some ⟨fun X L W P Φ fa n g => (L2.PW.pt (q.down X L W P Φ fa n g)).imp fun σ H Q ⟨ρ, S, η, sr, er, po⟩ => ⟨ρ, S, η, sr, er, by unfold evT ev at po; exact po⟩⟩
      | none => none
    | _ => none
  | k + 1, c, x, .or_ es => match x with
    | .BoolOp .Or xs p => match ckOrT k c p xs es with
      | some q => some ⟨fun X L W P Φ fa n g => (L2.PW.pt (q.down X L W P Φ fa n g)).imp fun σ H Q ⟨ρ, S, η, sr, er, po⟩ => ⟨ρ, S, η, sr, er, by unfold evT ev at po; exact po⟩⟩
      | none => none
    | _ => none
  | k + 1, c, x, .cmp o a b => match x with
    | .Compare xa [op] [xb] _ => match ckCOp o op, ckE k c xa a, ckE k c xb b with
      | some r, some p, some q => if h : behindInMarks op xb = false then some ⟨fun X L W P Φ fa n g => pt_mcmp (r.down X L g.hK g.u64) (p.down X L W P Φ fa n g) (q.down X L W P Φ fa n g) h⟩ else none
      | _, _, _ => none
    | _ => none
  | k + 1, c, x, .cmp2 o o2 a b d => match x with
    | .Compare xa [op, op2] [xb, xd] _ => match ckCOp o op, ckCOp o2 op2, ckE k c xa a, ckE k c xb b, ckE k c xd d with
      | some r, some r2, some p, some q, some s => if h : lastMarks [op, op2] [xb, xd] = false then some ⟨fun X L W P Φ fa n g => pt_mcmp2 (r.down X L g.hK g.u64) (r2.down X L g.hK g.u64) (p.down X L W P Φ fa n g) (q.down X L W P Φ fa n g) (s.down X L W P Φ fa n g) h⟩ else none
      | _, _, _, _, _ => none
    | _ => none
  | k + 1, c, x, .isN pos a => match x with
    | .Compare xa [.Is] [.Constant .none _ _] _ => match pos, ckE k c xa a with
      | true, some p => some ⟨fun X L W P Φ fa n g => pt_misN (p.down X L W P Φ fa n g)⟩
      | _, _ => none
    | .Compare xa [.IsNot] [.Constant .none _ _] _ => match pos, ckE k c xa a with
      | false, some p => some ⟨fun X L W P Φ fa n g => pt_mnotN (p.down X L W P Φ fa n g)⟩
      | _, _ => none
    | _ => none
  | k + 1, c, x, .isB pos b a => match x with
    | .Compare xa [.Is] [.Constant (.bool z) _ _] _ => match pos, ckE k c xa a with
      | true, some p => if h : z = b then some ⟨fun X L W P Φ fa n g => by rw [h]; exact pt_misB (p.down X L W P Φ fa n g)⟩ else none
      | _, _ => none
    | .Compare xa [.IsNot] [.Constant (.bool z) _ _] _ => match pos, ckE k c xa a with
      | false, some p => if h : z = b then some ⟨fun X L W P Φ fa n g => by rw [h]; exact pt_mnotB (p.down X L W P Φ fa n g)⟩ else none
      | _, _ => none
    | _ => none
  | k + 1, c, x, .eqE a => match x with
    | .Compare xa [.Eq] [.Tuple [] kt pt] _ => match ckE k c xa a with
      | some p => if h : behindInMarks .Eq (.Tuple [] kt pt) = false then some ⟨fun X L W P Φ fa n g => pt_meqE g.hK (by have := g.u64; omega) (p.down X L W P Φ fa n g) (pm_tup pm_nil) h⟩ else none
      | none => none
    | _ => none
  | k + 1, c, x, e => match ckE k c x e with
    | some p => if h : plainTest x = true then some ⟨fun X L W P Φ fa n g => pt_plain (p.down X L W P Φ fa n g) (isTrue_plain h)⟩ else none
    | none => none
def ckAndT : Nat → (c : Ck) → (pos : Pos) → (xs : List Expr) → (es : List E) → Option (PLift (SAndT c pos xs es))
  | 0, _, _, _, _ => none
  | k + 1, c, pos, [x], [e] => match ckT k c x e with
    | some p => some ⟨fun X L W P Φ fa n g => pw_mand1 (p.down X L W P Φ fa n g)⟩
    | none => none
  | k + 1, c, pos, x :: y :: xs, e :: e2 :: es => match ckT k c x e, ckAndT k c pos (y :: xs) (e2 :: es) with
    | some p, some q => some ⟨fun X L W P Φ fa n g => pw_mand (p.down X L W P Φ fa n g) (q.down X L W P Φ fa n g)⟩
    | _, _ => none
  | _, _, _, _, _ => none
def ckOrT : Nat → (c : Ck) → (pos : Pos) → (xs : List Expr) → (es : List E) → Option (PLift (SOrT c pos xs es))
  | 0, _, _, _, _ => none
  | k + 1, c, pos, [x], [e] => match ckT k c x e with
    | some p => some ⟨fun X L W P Φ fa n g => pw_mor1 (p.down X L W P Φ fa n g)⟩
    | none => none
  | k + 1, c, pos, x :: y :: xs, e :: e2 :: es => match ckT k c x e, ckOrT k c pos (y :: xs) (e2 :: es) with
    | some p, some q => some ⟨fun X L W P Φ fa n g => pw_mor (p.down X L W P Φ fa n g) (q.down X L W P Φ fa n g)⟩
    | _, _ => none
  | _, _, _, _, _ => none
def ckI : Nat → (c : Ck) → (tg x : Expr) → (kk : ItK) → (es : List E) → Option (PLift (SI c tg x kk es))
  | 0, _, _, _, _, _ => none
  | k + 1, c, tg, x, .seq, [e] => match ckE k c x e with
    | some p => if h : notSt e = true then some ⟨fun X L W P Φ fa n g => pim_seq g.hK (p.down X L W P Φ fa n g) (notSt_of h)⟩ else none
    | none => none
  | k + 1, c, tg, x, .vals, [.vals e] => match x with
    | .Call (.Attribute xa m ap) [] [] cp => match ckE k c xa e with
      | some p => if h : m = "values" ∧ notCall0 xa = true ∧ (ap.endLine == cp.line) = true then some ⟨fun X L W P Φ fa n g => by
          obtain ⟨rfl, h2, h3⟩ := h
          exact pim_vals (p.down X L W P Φ fa n g) (attr_plain h2) h3 (fun x z => by cases z)⟩ else none
      | none => none
    | _ => none
  | k + 1, c, tg, x, .rng1, es => match x with
    | .Call (.Name nm _) [a] [] _ => match ckA k c [a] es with
      | some p => if h : nm = "range" ∧ bltB c nm = true ∧ notStar a = true then some ⟨fun X L W P Φ fa n g => by
          obtain ⟨rfl, h2, h3⟩ := h
          exact pim_rng1 (g.gl (blt_of h2).1) (g.gblt _ (blt_of h2).2.1) (p.down X L W P Φ fa n g) (starEach_cons h3)⟩ else none
      | none => none
    | _ => none
  | k + 1, c, tg, x, .rng2, es => match x with
    | .Call (.Name nm _) [a, b] [] _ => match ckA k c [a, b] es with
      | some p => if h : nm = "range" ∧ bltB c nm = true ∧ notStar a = true ∧ notStar b = true then some ⟨fun X L W P Φ fa n g => by
          obtain ⟨rfl, h2, h3, h4⟩ := h
          exact pim_rng2 (g.gl (blt_of h2).1) (g.gblt _ (blt_of h2).2.1) (p.down X L W P Φ fa n g) (by rw [starEach_cons h3, starEach_cons h4]; rfl) (starEach_cons h4)⟩ else none
      | none => none
    | _ => none
  | k + 1, c, tg, x, .enumL, es => match tg, x with
    | .Tuple elts kk tp, .Call (.Name nm _) [a] [] _ => match ckA k c [a] es with
      | some p => if h : nm = "enumerate" ∧ bltB c nm = true ∧ notStar a = true then some ⟨fun X L W P Φ fa n g => by
          obtain ⟨rfl, h2, h3⟩ := h
          exact pim_enumL g.hK (g.gl (blt_of h2).1) (g.gblt _ (blt_of h2).2.1) (p.down X L W P Φ fa n g) (starEach_cons h3)⟩ else none
      | none => none
    | _, _ => none
  | k + 1, c, tg, x, .enumT, es => match tg, x with
    | .Tuple elts kk tp, .Call (.Name nm _) [a] [] _ => match ckA k c [a] es with
      | some p => if h : nm = "enumerate" ∧ bltB c nm = true ∧ notStar a = true then some ⟨fun X L W P Φ fa n g => by
          obtain ⟨rfl, h2, h3⟩ := h
          exact pim_enumT g.hK (g.gl (blt_of h2).1) (g.gblt _ (blt_of h2).2.1) (p.down X L W P Φ fa n g) (starEach_cons h3)⟩ else none
      | none => none
    | _, _ => none
  | _, _, _, _, _, _ => none
end
end Mi
set_option Elab.async false
set_option linter.all false
set_option maxHeartbeats 4000000
namespace Mi
open PySem PySem.Spec PyProof.Rows L2
/-- a context of a def's body -/
structure GoodS (c : Ck) (X : Cx) (L : Lk) (W : WX) (P : Prog) (Φ : Call) (fa : Nat → Addr) (n : Nat) : Prop where
  g : Good c X L W P Φ fa n
  own : PassesOwn (model X.prog X.w) X.A X.env X.xe
  stk : X.stack = X.env :: X.outer
  frm : X.env.frame = some X.env.locals
abbrev SS (c : Ck) (st : Stmt) (s : St) : Prop := ∀ X L W P Φ fa n, GoodS c X L W P Φ fa n → PS X st (tS L W (ex P Φ s))
abbrev SSs (c : Ck) (st : List Stmt) (s : List St) : Prop := ∀ X L W P Φ fa n, GoodS c X L W P Φ fa n → PSs X st (tS L W (exs P Φ s))
def isFun (c : Ck) : Bool := match c.sc.kind with
  | .function => true
  | _ => false
theorem isFun_of {c : Ck} (h : isFun c = true) : c.sc.kind = .function := by
  unfold isFun at h
  split at h
  · next e => exact e
  · cases h
/-- name = [..] on one line -/
def lcSet (c : Ck) (nm : Str) (py pos : Pos) (scope : Scope) : Bool := isFun c && (decide (c.sc.names.lookup nm = some .local) && ((py.line == pos.line) && ((scope.names.any fun (n, k) => n == nm && (k == .local || k == .cell)) == false)))
theorem lcSet_of {c : Ck} {nm : Str} {py pos : Pos} {scope : Scope} {elt : Expr} {gs : List Comprehension} {l : Nat} {env : PySem.Env} (he : env.scope = c.sc) (h : lcSet c nm py pos scope = true) : c.sc.names.lookup nm = some .local ∧ swapsWith (.ListComp elt gs scope pos) (some (.Name nm py)) l env = pure true := by
  unfold lcSet at h
  simp only [Bool.and_eq_true, decide_eq_true_eq, beq_iff_eq] at h
  obtain ⟨h1, h2, h3, h4⟩ := h
  exact ⟨h2, sw_true (by rw [he]; exact isFun_of h1) (by rw [he]; exact h2) (by simp [h3]) h4⟩
/-- the body of a try -/
theorem GoodS.tr {c : Ck} {X : Cx} {L : Lk} {W W' : WX} {P : Prog} {Φ : Call} {fa : Nat → Addr} {n : Nat} (g : GoodS c X L W P Φ fa n) {pn : List (Addr × Obj)} {xe : Value → Shared → Prop} (tk : Takes (X.tr pn xe) W') (own : PassesOwn (model X.prog X.w) X.A X.env xe) : GoodS c (X.tr pn xe) L W' P Φ fa n :=
  ⟨{ hK := g.g.hK, F := g.g.F, room := g.g.room, tk := tk, ok := g.g.ok, xok := g.g.xok, isk := g.g.isk, smo := g.g.smo, calm := g.g.calm, nd := g.g.nd, N := g.g.N, sc := g.g.sc, fnc := g.g.fnc, gfn := g.g.gfn, gcls := g.g.gcls, gcon := g.g.gcon, gblt := g.g.gblt }, own, g.stk, g.frm⟩
/-- a name of an exception class -/
def clsNm (c : Ck) (x : Str) (k : Nat) : Bool := decide (c.sc.names.lookup x = some .globalImplicit) && (decide (c.glob x = some (.cls k)) && !(x == ("__debug__" : Str)))
theorem clsNm_gl {c : Ck} {x : Str} {k : Nat} (h : clsNm c x k = true) : c.glob x = some (.cls k) := by
  unfold clsNm at h
  simp only [Bool.and_eq_true, decide_eq_true_eq, Bool.not_eq_true'] at h
  exact h.2.1
theorem clsNm_of {c : Ck} {X : Cx} {L : Lk} {W : WX} {P : Prog} {Φ : Call} {fa : Nat → Addr} {n : Nat} (g : Good c X L W P Φ fa n) {x : Str} {k : Nat} (h : clsNm c x k = true) : Names X x (.ref (L.ca k)) := by
  unfold clsNm at h
  simp only [Bool.and_eq_true, decide_eq_true_eq, Bool.not_eq_true'] at h
  exact ⟨g.gl h.1, h.2.2, .inl (g.gcls _ _ h.2.1).1⟩
/-- the classes of a clause -/
def ckHN (c : Ck) (T : Expr) (cs : List Nat) : Option (PLift (∀ X L W P Φ fa n, Good c X L W P Φ fa n → HNames X T (cs.map fun k => .ref (L.ca k)))) := match T, cs with
  | .Name x p, [k] => if h : clsNm c x k = true then some ⟨fun X L W P Φ fa n g => .one (clsNm_of g h)⟩ else none
  | .Tuple [.Name x1 p1, .Name x2 p2] _ _, [k1, k2] => if h : clsNm c x1 k1 = true ∧ clsNm c x2 k2 = true then some ⟨fun X L W P Φ fa n g => .two (clsNm_of g h.1) (clsNm_of g h.2)⟩ else none
  | .Tuple [.Name x1 p1, .Name x2 p2, .Name x3 p3] _ _, [k1, k2, k3] => if h : clsNm c x1 k1 = true ∧ clsNm c x2 k2 = true ∧ clsNm c x3 k3 = true then some ⟨fun X L W P Φ fa n g => .three (clsNm_of g h.1) (clsNm_of g h.2.1) (clsNm_of g h.2.2)⟩ else none
  | _, _ => none
/-- a constant -/
def cstB (x : Expr) (d : D) : Bool := match x, d with
  | .Constant .none _ _, .none => true
  | .Constant (.bool b) _ _, .bool b' => b == b'
  | .Constant (.int i) _ _, .int j => i == j
  | .Constant (.str y) _ _, .str z => decide (y = z)
  | _, _ => false
theorem cst_of {x : Expr} {d : D} (h : cstB x d = true) {X : Cx} {L : Lk} {W : WX} {P : Prog} {Φ : Call} : PE X x (tE L W (ev P Φ (.c d))) := by
  unfold cstB at h
  split at h
  · exact pm_c pe_non fun _ _ => by simp
  · next b k p b' => have e := eq_of_beq h; subst e; exact pm_c (v := .bl b) pe_bl fun _ _ => by simp
  · next i k p j => have e := eq_of_beq h; subst e; exact pm_c (v := .int i) pe_int fun _ _ => by simp
  · next y k p z => have e := of_decide_eq_true h; subst e; exact pm_c (v := .str y) pe_str fun _ _ => by simp
  · cases h
/-- the suites that we know: name = name, return constant -/
def ckSu (c : Ck) (sts : List Stmt) (ss : List St) : Option (PLift ((∃ b0 r, sts = b0 :: r) ∧ (∀ P Φ η S e η' S', exs P Φ ss η S ≠ .exc e η' S') ∧ ∀ X L W P Φ fa n, Good c X L W P Φ fa n → ∀ a pn, PSs (X.suite a pn) sts (tS L Wn (exs P Φ ss)))) := match sts, ss with
  | [.Assign [.Name y py] (.Name x px) sp], [.set (.n j) (.v i)] => if h : c.N[j]? = some y ∧ locB c y = true ∧ c.N[i]? = some x ∧ visB c.sc x = true ∧ (x == ("__debug__" : Str)) = false ∧ (x == ("__classdict__" : Str)) = false then
      some ⟨⟨⟨_, _, rfl⟩, fun P Φ η S e η' S' => by
        unfold exs ex thenX
        unfold ev
        cases q : η[i]? with
        | none => simp
        | some o =>
          cases o with
          | none => simp
          | some d =>
            simp only
            unfold asg
            by_cases q2 : j < η.length
            · rw [if_pos q2]
              simp only
              unfold exs
              simp
            · rw [if_neg q2]; simp, fun X L W P Φ fa n g a pn => pssm_cons (psm_setN (X := X.suite a pn) g.nd (by show X.N[j]? = _; rw [g.N]; exact h.1) (by show Loc X.env.scope y; rw [g.sc]; exact (loc_of h.2.1).1) (pm_var (X := X.suite a pn) (by show X.N[i]? = _; rw [g.N]; exact h.2.2.1) (by show Vis X.env.scope x; rw [g.sc]; exact vis_of h.2.2.2.1) h.2.2.2.2.1 h.2.2.2.2.2) (swaps_plain rfl) (by show _ ∨ X.env.scope.names.lookup y = _; rw [g.sc]; exact (loc_of h.2.1).2.imp (g.fnc _) id)) pssm_nil⟩⟩ else none
  | [.Return (some x) rp], [.ret (.c d)] => if h : cstB x d = true then
      some ⟨⟨⟨_, _, rfl⟩, fun P Φ η S e η' S' => by
        unfold exs ex thenX
        unfold ev
        simp, fun X L W P Φ fa n g a pn => pssm_cons (psm_ret (cst_of h)) pssm_nil⟩⟩ else none
  | _, _ => none
mutual
def ckS : Nat → (c : Ck) → (st : Stmt) → (s : St) → Option (PLift (SS c st s))
  | 0, _, _, _ => none
  | k + 1, c, st, .dead => some ⟨fun X L W P Φ fa n g => psm_dead⟩
  | k + 1, c, st, .pass => match st with
    | .Pass _ => some ⟨fun X L W P Φ fa n g => psm_pass⟩
    | .Expr (.Constant (.str _) _ _) _ => some ⟨fun X L W P Φ fa n g => psm_doc⟩
    | _ => none
  | k + 1, c, st, .brk => match st with
    | .Break _ => some ⟨fun X L W P Φ fa n g => psm_brk⟩
    | _ => none
  | k + 1, c, st, .cont => match st with
    | .Continue _ => some ⟨fun X L W P Φ fa n g => psm_cont⟩
    | _ => none
  | k + 1, c, st, .ex e => match st with
    | .Expr x p => match ckE k c x e with
      | some q => if h : notComp x = true then some ⟨fun X L W P Φ fa n g => psm_expr (q.down X L W P Φ fa n g.g) (swaps_plain h)⟩ else none
      | none => none
    | _ => none
  | k + 1, c, st, .ret e => match st with
    | .Return (some x) p => match ckE k c x e with
      | some q => some ⟨fun X L W P Φ fa n g => psm_ret (q.down X L W P Φ fa n g.g)⟩
      | none => none
    | .Return none p => match e with
      | .c .none => some ⟨fun X L W P Φ fa n g => psm_retN⟩
      | _ => none
    | _ => none
  | k + 1, c, st, .set tg e => match tg, e, st with
    | .n i, .lc mu own kk ia tg' cond elt, .Assign [.Name nm py] (.ListComp xe [⟨xt, xi, ifs, 0⟩] scope pos) sp => match ownOf c.N own, ckI k c xt xi kk ia, ckG k (blkCk c scope) xt tg', ckC k (blkCk c scope) ifs cond, ckE k (blkCk c scope) xe elt with
      | some o, some qi, some qg, some qc, some qe => if h : ownOf c.N own = some o ∧ blkC c.N c.sc scope o = true ∧ subNs (tgNs tg') own = true ∧ notSet xi = true ∧ c.N[i]? = some nm ∧ lcSet c nm py pos scope = true then
          some ⟨fun X L W P Φ fa n g => by
            obtain ⟨h1, h2, h3, h4, h5, h6⟩ := h
            have e := ownOf_snd h1
            obtain ⟨h7, h8⟩ := lcSet_of (elt := xe) (gs := [⟨xt, xi, ifs, 0⟩]) (l := sp.line) g.g.sc h6
            have z := psm_setLc (own := o) (mu := mu) (pos := pos) g.g.calm g.g.nd (by rw [g.g.N]; exact h5) (by rw [g.g.sc]; exact h7) h8 (qi.down X L W P Φ fa n g.g) (by rw [g.g.N, g.g.sc]; exact blkOk_by h2) (fun s H C cl fp => qg.down _ L W0 P Φ fa n (good_blk g.g s H C cl fp)) (fun s H C cl fp => qc.down _ L W0 P Φ fa n (good_blk g.g s H C cl fp)) (fun s H C cl fp => qe.down _ L W0 P Φ fa n (good_blk g.g s H C cl fp)) (folded_plain h4) (by rw [e]; exact subNs_of h3)
            rw [e] at z
            exact z⟩ else none
      | _, _, _, _, _ => none
    | .n i, .lc2 own kk ia tg' cond kk2 ia2 own2 tg2 cond2 elt, .Assign [.Name nm py] (.ListComp xe [⟨xt, xi, ifs, 0⟩, ⟨xt2, xi2, ifs2, 0⟩] scope pos) sp => match ownOf c.N own, ckI k c xt xi kk ia, ckG k (blkCk c scope) xt tg', ckC k (blkCk c scope) ifs cond, ckI k (blkCk c scope) xt2 xi2 kk2 ia2, ckG k (blkCk c scope) xt2 tg2, ckC k (blkCk c scope) ifs2 cond2, ckE k (blkCk c scope) xe elt with
      | some o, some qi, some qg, some qc, some qi2, some qg2, some qc2, some qe => if h : (ownOf c.N own = some o ∧ blkC c.N c.sc scope o = true ∧ subNs (tgNs tg') own = true ∧ notSet xi = true ∧ subNs own2 own = true ∧ subNs (tgNs tg2) own2 = true ∧ notSet xi2 = true) ∧ c.N[i]? = some nm ∧ lcSet c nm py pos scope = true then
          some ⟨fun X L W P Φ fa n g => by
            obtain ⟨⟨h1, h2, h3, h4, h5, h6, h7⟩, h8, h9⟩ := h
            have e := ownOf_snd h1
            obtain ⟨ha, hb⟩ := lcSet_of (elt := xe) (gs := [⟨xt, xi, ifs, 0⟩, ⟨xt2, xi2, ifs2, 0⟩]) (l := sp.line) g.g.sc h9
            have z := psm_setLc2 (own := o) (pos := pos) g.g.calm g.g.nd (by rw [g.g.N]; exact h8) (by rw [g.g.sc]; exact ha) hb (qi.down X L W P Φ fa n g.g) (by rw [g.g.N, g.g.sc]; exact blkOk_by h2) (by rw [e]; exact subNs_of h5) (fun s H C cl fp => qg.down _ L W0 P Φ fa n (good_blk g.g s H C cl fp)) (fun s H C cl fp => qc.down _ L W0 P Φ fa n (good_blk g.g s H C cl fp)) (fun s H C cl fp => qi2.down _ L W0 P Φ fa n (good_blk g.g s H C cl fp)) (fun s H C cl fp => qg2.down _ L W0 P Φ fa n (good_blk g.g s H C cl fp)) (fun s H C cl fp => qc2.down _ L W0 P Φ fa n (good_blk g.g s H C cl fp)) (fun s H C cl fp => qe.down _ L W0 P Φ fa n (good_blk g.g s H C cl fp)) (folded_plain h4) (fun env => folded_plain h7) (by rw [e]; exact subNs_of h3) (subNs_of h6)
            rw [e] at z
            exact z⟩ else none
      | _, _, _, _, _, _, _, _ => none
    | .n i, e, .Assign [.Name nm py] x sp => match ckE k c x e with
      | some q => if h : c.N[i]? = some nm ∧ locB c nm = true ∧ notComp x = true then
          some ⟨fun X L W P Φ fa n g => psm_setN g.g.nd (by rw [g.g.N]; exact h.1) (by rw [g.g.sc]; exact (loc_of h.2.1).1) (q.down X L W P Φ fa n g.g) (swaps_plain h.2.2) (by rw [g.g.sc]; exact (loc_of h.2.1).2.imp (g.g.fnc _) id)⟩ else none
      | none => none
    | tg, e, .Assign [xt] x sp => match ckG k c xt tg, ckE k c x e with
      | some r, some q => if h : notComp x = true ∧ (noSwap xt x || cellT c.sc xt x) = true ∧ notStar xt = true then
          some ⟨fun X L W P Φ fa n g => psm_set (q.down X L W P Φ fa n g.g) (r.down X L W P Φ fa n g.g) (by show swapsWith x (some xt) sp.line X.env = _; exact swaps_plain h.1) (by
            rcases Bool.or_eq_true_iff.mp h.2.1 with h2 | h2
            · exact noSwap_ok h2
            · exact cellT_ok g.g.sc h2) (by rw [asgEach_cons h.2.2]; rfl)⟩ else none
      | _, _ => none
    | _, _, _ => none
  | k + 1, c, st, .par is es => match is, st with
    | [i, j], .Assign [.Tuple [.Name x px, .Name y py] kt pt] (.Tuple [a, b] k2 pt2) p => match ckA k c [a, b] es with
      | some q => if h : (isFun c = true ∧ c.N[i]? = some x ∧ c.N[j]? = some y ∧ i ≠ j ∧ c.sc.names.lookup x = some .local ∧ c.sc.names.lookup y = some .local ∧ x ≠ y) ∧ ((py.line == px.line) = true ∧ notStar a = true ∧ notStar b = true ∧ [a, b].all (foldedForSure 8) = false ∧ [a, b].all (constantsAlone 8) = false) then
          some ⟨fun X L W P Φ fa n g => by
            obtain ⟨⟨h1, h2, h3, h4, h5, h6, h7⟩, h8, h9, h10, h11, h12⟩ := h
            exact psm_par g.g.calm g.g.nd (by rw [g.g.N]; exact h2) (by rw [g.g.N]; exact h3) h4 (by rw [g.g.sc]; exact h5) (by rw [g.g.sc]; exact h6) (q.down X L W P Φ fa n g.g) (swap2 (by rw [g.g.sc]; exact isFun_of h1) (by rw [g.g.sc]; exact h5) (by rw [g.g.sc]; exact h6) h7 h8 h9 h10 h11 h12) rfl⟩ else none
      | none => none
    | [i, j, l], .Assign [.Tuple [.Name x px, .Name y py, .Name z pz] kt pt] (.Tuple [a, b, d] k2 pt2) p => match ckA k c [a, b, d] es with
      | some q => if h : (isFun c = true ∧ c.N[i]? = some x ∧ c.N[j]? = some y ∧ c.N[l]? = some z ∧ i ≠ j ∧ i ≠ l ∧ j ≠ l ∧ c.sc.names.lookup x = some .local ∧ c.sc.names.lookup y = some .local ∧ c.sc.names.lookup z = some .local ∧ x ≠ y ∧ x ≠ z ∧ y ≠ z) ∧
            ((py.line == px.line) = true ∧ (pz.line == px.line) = true ∧ notStar a = true ∧ notStar b = true ∧ notStar d = true ∧ [a, b, d].all (foldedForSure 8) = false ∧ [a, b, d].all (constantsAlone 8) = false) then
          some ⟨fun X L W P Φ fa n g => by
            obtain ⟨⟨h1, h2, h3, h3', h4, h4', h4'', h5, h6, h6', h7, h7', h7''⟩, h8, h8', h9, h10, h10', h11, h12⟩ := h
            exact psm_par3 g.g.calm g.g.nd (by rw [g.g.N]; exact h2) (by rw [g.g.N]; exact h3) (by rw [g.g.N]; exact h3') h4 h4' h4'' (by rw [g.g.sc]; exact h5) (by rw [g.g.sc]; exact h6) (by rw [g.g.sc]; exact h6') (q.down X L W P Φ fa n g.g) (swap3 (by rw [g.g.sc]; exact isFun_of h1) (by rw [g.g.sc]; exact h5) (by rw [g.g.sc]; exact h6) (by rw [g.g.sc]; exact h6') h7 h7' h7'' h8 h8' h9 h10 h10' h11 h12) rfl⟩ else none
      | none => none
    | _, _ => none
  | k + 1, c, st, .seti a i e => match st with
    | .Assign [.Subscript xa xi p2] x p => match ckE k c xa a, ckE k c xi i, ckE k c x e with
      | some q1, some q2, some q3 => some ⟨fun X L W P Φ fa n g => psm_seti (by have := g.g.u64; omega) (q1.down X L W P Φ fa n g.g) (q2.down X L W P Φ fa n g.g) (q3.down X L W P Φ fa n g.g) (swaps_other rfl)⟩
      | _, _, _ => none
    | _ => none
  | k + 1, c, st, .seta a f e => match st with
    | .Assign [.Attribute xa f' p2] x p => match ckE k c xa a, ckE k c x e with
      | some q1, some q3 => if h : f' = f then some ⟨fun X L W P Φ fa n g => by
          rw [h]
          exact psm_seta g.g.hK g.g.ok (q1.down X L W P Φ fa n g.g) (q3.down X L W P Φ fa n g.g) (swaps_other rfl)⟩ else none
      | _, _ => none
    | _ => none
  | k + 1, c, st, .ite e a b => match st with
    | .If x xa xb p => match ckT k c x e, ckSs k c xa a, ckSs k c xb b with
      | some q, some r, some s => some ⟨fun X L W P Φ fa n g => psm_if (q.down X L W P Φ fa n g.g) (r.down X L W P Φ fa n g) (s.down X L W P Φ fa n g)⟩
      | _, _, _ => none
    | _ => none
  | k + 1, c, st, .while_ m e b => match st with
    | .While x xb [] p => match ckT k c x e, ckSs k c xb b with
      | some q, some r => some ⟨fun X L W P Φ fa n g => psm_while g.own (q.down X L W P Φ fa n g.g) (r.down X L W P Φ fa n g)⟩
      | _, _ => none
    | _ => none
  | k + 1, c, st, .for_ kk ia tg b => match st with
    | .For xt x xb [] p => match ckI k c xt x kk ia, ckG k c xt tg, ckSs k c xb b with
      | some q, some r, some s => if h : notSet x = true then some ⟨fun X L W P Φ fa n g => psm_for g.own g.g.calm (q.down X L W P Φ fa n g.g) (r.down X L W P Φ fa n g.g) (s.down X L W P Φ fa n g) (folded_plain h)⟩ else none
      | _, _, _ => none
    | _ => none
  | k + 1, c, st, .raise e => match e, st with
    | .mkx cl es [] [], .Raise (some (.Call (.Name nm p0) (x :: xs) [] p1)) none p2 => match ckA k c (x :: xs) es with
      | some q => if h : clsNm c nm cl = true ∧ (x :: xs).all notStar = true then some ⟨fun X L W P Φ fa n g => by
          have hn := clsNm_of g.g h.1
          have h2 := h.2
          simp only [List.all_cons, Bool.and_eq_true] at h2
          obtain ⟨n1, n2, n3 | n3⟩ := hn
          · refine psm_raise g.g.hK g.g.xok g.g.calm g.g.room g.g.tk n1 n3 n2 (q.down X L W P Φ fa n g.g) (starEach_cons h2.1) (plain_any h2.2)
          · have := (g.g.gcls _ _ (clsNm_gl h.1)).1
            rw [n3.1] at this
            cases this⟩ else none
      | none => none
    | _, _ => none
  | k + 1, c, st, .try_ b cs as h => match as, st with
    | some i, .Try xb [.ExceptHandler (some T) (some nm) (s0 :: su) hp] [] [] p => match ckHN c T cs, ckSs k c xb b, ckSu c (s0 :: su) h with
      | some hn, some hb, some hs => if h2 : c.N[i]? = some nm ∧ c.sc.names.lookup nm = some .local then
          some ⟨fun X L W P Φ fa n g => psm_try_as g.g.hK g.g.xok g.stk g.frm (hn.down X L W P Φ fa n g.g) g.g.tk g.g.nd (by rw [g.g.N]; exact h2.1) (by show X.env.scope.names.lookup nm = _; rw [g.g.sc]; exact h2.2)
            (fun W' pn xe tk own => hb.down (X.tr pn xe) L W' P Φ fa n (g.tr tk own)) (fun a pn => hs.down.2.2 X L W P Φ fa n g.g a pn) (hs.down.2.1 P Φ)⟩ else none
      | _, _, _ => none
    | none, .Try xb [.ExceptHandler (some T) none (s0 :: su) hp] [] [] p => match ckHN c T cs, ckSs k c xb b, ckSu c (s0 :: su) h with
      | some hn, some hb, some hs => 
          some ⟨fun X L W P Φ fa n g => psm_try_no g.g.hK g.g.xok g.stk g.frm (hn.down X L W P Φ fa n g.g) g.g.tk
            (fun W' pn xe tk own => hb.down (X.tr pn xe) L W' P Φ fa n (g.tr tk own)) (fun a pn => hs.down.2.2 X L W P Φ fa n g.g a pn) (hs.down.2.1 P Φ)⟩
      | _, _, _ => none
    | _, _ => none
  | _, _, _, _ => none
def ckSs : Nat → (c : Ck) → (sts : List Stmt) → (ss : List St) → Option (PLift (SSs c sts ss))
  | 0, _, _, _ => none
  | k + 1, c, [], [] => some ⟨fun X L W P Φ fa n g => pssm_nil⟩
  | k + 1, c, st :: sts, s :: ss => match s, ss with
    | .dead, [] => some ⟨fun X L W P Φ fa n g => pssm_dead⟩
    | s, ss => match ckS k c st s, ckSs k c sts ss with
      | some q, some r => some ⟨fun X L W P Φ fa n g => pssm_cons (q.down X L W P Φ fa n g) (r.down X L W P Φ fa n g)⟩
      | _, _ => none
  | _, _, _, _ => none
end
/-- a def's body, checked -/
theorem body_of {k : Nat} {c : Ck} {body : List Stmt} {ss : List St} (h : (ckSs k c body ss).isSome = true) : SSs c body ss := ((ckSs k c body ss).get h).down
end Mi
set_option Elab.async false
set_option linter.all false
set_option maxHeartbeats 1000000
namespace Mi
open PySem PySem.Spec PyProof.Rows L2
section
variable {prog : Program} {w : World} {mg mb : Str → Option Value} {base : Heap} {L : Lk} {P : Prog} {fa : Nat → Addr}
theorem ints_stand {ρ : Rho} {H : Hp} : ∀ (ns : List Int), RDs L ρ H (ns.map D.int) (ns.map V.int)
  | [] => by simpa using RDs.nil
  | i :: r => by simpa using RDs.cons (by simp) (ints_stand r)
theorem room_caller {n : Nat} (h : n ≤ 100) : RoomM (2 * n) callerA := by
  refine ⟨rfl, rfl, ?_, ?_⟩
  · have e : callerA.depth = 301 := by decide
    rw [e]
    show 301 + 3 * (2 * n) + 5 < 1000
    omega
  · have e : callerA.units ≤ 100 := by decide
    have e2 : cLine = 9900 := by decide
    rw [e2]
    omega
/-- THE LAW: what Mini says of the script's list is what the host answers -/
theorem law_m {f n a : Nat} {s₁ : Shared} {vs : List Value} {ns : List Int} {S' : Store} (KX : L.K.In s₁.heap) (hns : s₁.heap.Ns mainGlobals mg) (hb : s₁.heap.Ns builtinsNs mb) (hbb : ∀ x : Str, x ≠ "__name__" → mb x = bootBuiltins x) (hlim : s₁.heap.NoLimit) (hg : s₁.gens = #[])
    (ha : s₁.heap.get? a = some { cls := .type "list", data := .seq vs.toArray }) (hi : IntsAre vs ns) (hl : ns.length ≤ sizeLine) (hn : n ≤ 100)
    (F : ∀ base : Heap, L.K.In base → base.Ns mainGlobals mg → FnM prog w mg base L P fa (run P n) n) (hlaw : callM P (run P n) f [.list (ns.map .int)] [] [] [] = .ok (.bool true) S') :
    codeAny (model prog w) callerA (.call (.ref (fa f)) ⟨[.ref a], []⟩) (fun r s' => r = .ok (.ret (.bool true)) ∧ OldK s₁.heap s'.heap ∧ s'.os = s₁.os ∧ AllBare s'.gens) s₁ := by
  have rv := vals_ints hi
  have lenV := hi.length
  have main : ∀ H : Hp, L2.Only H → LstF L [] H a (ns.map V.int) → HOk prog w H s₁.heap → (∀ b, H b ≠ none → b = a) → (H a ≠ none → L.K.lookup a = none) →
      codeAny (model prog w) callerA (.call (.ref (fa f)) ⟨[.ref a], []⟩) (fun r s' => r = .ok (.ret (.bool true)) ∧ OldK s₁.heap s'.heap ∧ s'.os = s₁.os ∧ AllBare s'.gens) s₁ := by
    intro H hO hS hok hA hK
    have only_a : ∀ {b : Addr}, b ≠ a → H b = none := fun {b} hne => by
      cases q : H b with
      | none => rfl
      | some u => exact absurd (hA b (by rw [q]; simp)) hne
    have dictFree : ∀ {b : Addr} {o : Obj} {es : Array DictEntry} {ep : Nat}, s₁.heap.get? b = some o → o.data = .dict es ep → H b = none := fun {b o es ep} e d => by
      refine only_a fun z => ?_
      subst z
      rw [ha] at e
      cases e
      exact absurd (show Data.seq vs.toArray _ = Data.dict es ep from d) (by simp)
    have toHid : ∀ {b : Addr} {m : Str → Option Value}, s₁.heap.Ns b m → (hidT s₁.heap H).Ns b m := fun {b m} ⟨o, es, ep, e, d, r⟩ => ⟨o, es, ep, hidT_get e (dictFree e d), d, r⟩
    have inHid : L.K.In (hidT s₁.heap H) := fun b o e => hidT_get (KX b o e) (by
      by_cases z : b = a
      · subst z
        cases q : H b with
        | none => rfl
        | some u =>
          have := hK (by rw [q]; simp)
          rw [this] at e
          cases e
      · exact only_a z)
    have md : Mod L.K mg (hidT s₁.heap H) := ⟨inHid, toHid hns, ⟨mb, toHid hb, hbb⟩, let ⟨mc, h1, h2⟩ := hlim; ⟨mc, toHid h1, h2⟩⟩
    have env : Env0 prog w L.K mg (hidT s₁.heap H) callerA [] s₁ H := ⟨rfl, md, fun b o e => of_hidT e, Nat.le_of_eq (hidT_size _ _), trivial, fun b hb => by simp [frs] at hb, hok, .of_eq hg⟩
    have sr : SR L [] [] H := ⟨rfl, fun i j x e => by simp at e, fun i c e => by simp at e⟩
    have rd : RD L [] H (.list (ns.map .int)) (.ref a) := by
      simp only [RD]
      exact ⟨a, _, rfl, hS, ints_stand ns⟩
    have po : Post L (fun c d _ H => False) [] [] H (RD L) (fun v _ => v = .bl true) (callM P (run P n) f [.list (ns.map .int)] [] [] []) := by
      rw [hlaw]
      intro ρ' H' v x s r
      simpa using r
    refine codeAny_mono (F _ inHid (toHid hns) f callerA [] s₁ H [.ref a] [] [] _ [] [] [] (fun v _ => v = .bl true) (fun _ _ _ => False) (room_caller hn) env (.cons ⟨.ref a, rfl, rd⟩ .nil) .nil sr po) fun r s' h => ?_
    cases r with
    | error e =>
      obtain ⟨_, _, _, _, _, _, _, _, _, _, _, _, z⟩ := (show L2.CX prog w [] H s₁ (fun _ _ _ => False) e s' from h)
      exact z.elim
    | ok fl =>
      cases fl with
      | next => exact (show False from h).elim
      | brk => exact (show False from h).elim
      | cont => exact (show False from h).elim
      | ret u =>
        obtain ⟨v, H', os, bare, un, hok', r', q⟩ := h
        have q' : v = .bl true := q
        subst q'
        obtain rfl : u = Value.bool true := r'
        refine ⟨rfl, OldK.of_keep fun b o e => ?_, os, bare⟩
        rcases hO b with z | ⟨ob, xs, z⟩
        · exact un.keep b o e z (by intro z'; exact absurd (show b ∈ ([] : List Addr) from z') (by simp)) (by simp)
        · have z2 := un.frzs b ob _ z
          obtain ⟨e1, _⟩ := hok b _ z
          obtain ⟨e2, _⟩ := hok' b _ z2
          rw [e] at e1
          cases e1
          exact e2
  have nl : ¬ live [] a := fun ⟨i, e⟩ => by simp at e
  cases hk : L.K.lookup a with
  | some o =>
    have e := KX a o hk
    rw [ha] at e
    cases e
    exact main (fun _ => none) (fun _ => .inl rfl) (.inr ⟨vs, _, hk, by rw [lenV]; exact hl, rv⟩) (fun b u z => by cases z) (fun b z => absurd rfl z) fun z => absurd rfl z
  | none =>
    refine main (fun b => if b = a then some (.frz { cls := .type "list", data := .seq vs.toArray } (.lst (ns.map V.int))) else none) (fun b => ?_) (.inl ⟨.inr ⟨{ cls := .type "list", data := .seq vs.toArray }, if_pos rfl⟩, nl⟩) (fun b u z => ?_) (fun b z => ?_) fun _ => hk
    · by_cases hba : b = a
      · exact .inr ⟨_, _, if_pos hba⟩
      · exact .inl (if_neg hba)
    · by_cases hba : b = a
      · have z' := (if_pos hba).symm.trans z
        cases z'
        subst hba
        exact ⟨ha, by rw [List.length_map]; exact hl, vs, _, rv, ha⟩
      · have z' := (if_neg hba).symm.trans z
        cases z'
    · by_cases hba : b = a
      · exact hba
      · exact absurd (if_neg hba) z
/-- parameters as PlainD wants them, by the text -/
def plainB (params : Arguments) (ps : List Str) (pv : Option Str) : Bool := params.posonlyargs.isEmpty && (params.kwonlyargs.isEmpty && (params.kwarg.isNone && (decide (params.args.map (·.arg) = ps) && decide (params.vararg.map (·.arg) = pv))))
/-- a frame's names, as FnScope wants them, by the text -/
def scopeB (N ps : List Str) (sc : Scope) : Bool := (match sc.kind with
  | .function => true
  | _ => false) && (!sc.isCoroutine && (!sc.isGenerator && (decide N.Nodup && (decide (N.take ps.length = ps) && (ps.all (fun x => decide (sc.names.lookup x = some .local) || decide (sc.names.lookup x = some .cell)) && sc.names.all fun y => decide (y.2 ≠ .free))))))
theorem scope_of {N ps : List Str} {sc : Scope} (h : scopeB N ps sc = true) : FnScope N ps sc := by
  unfold scopeB at h
  simp only [Bool.and_eq_true, Bool.not_eq_true', decide_eq_true_eq, List.all_eq_true, Bool.or_eq_true] at h
  obtain ⟨h1, h2, h3, h4, h5, h6, h7⟩ := h
  refine ⟨?_, h2, h3, h4, h5, h6, h7⟩
  split at h1
  · next e => exact e
  · cases h1
/-- a default as a value of Mini -/
def dflB : D → V → Bool
  | .none, .non => true
  | .bool b, .bl b' => b == b'
  | .int i, .int j => i == j
  | .str x, .str y => decide (x = y)
  | _, _ => false
def dflsB : List D → List V → Bool
  | [], [] => true
  | d :: ds, v :: vs => dflB d v && dflsB ds vs
  | _, _ => false
theorem dflB_of {d : D} {v : V} (h : dflB d v = true) (ρ : Rho) (H : Hp) : RD L ρ H d v := by
  unfold dflB at h
  split at h
  · simp
  · have e := eq_of_beq h; simp [e]
  · have e := eq_of_beq h; simp [e]
  · simp only [decide_eq_true_eq] at h; simp [h]
  · cases h
theorem dflsB_of : ∀ {ds : List D} {vs : List V} (h : dflsB ds vs = true) (ρ : Rho) (H : Hp), RDs L ρ H ds vs
  | [], [], _, ρ, H => .nil
  | d :: ds, v :: vs, h, ρ, H => by
    simp only [dflsB, Bool.and_eq_true] at h
    exact .cons (dflB_of h.1 ρ H) (dflsB_of h.2 ρ H)
  | [], _ :: _, h, _, _ => by simp [dflsB] at h
  | _ :: _, [], h, _, _ => by simp [dflsB] at h
/-- the kinds of global names that a program's text uses -/
structure Globs (glob : Str → Option GV) (mg : Str → Option Value) (L : Lk) (P : Prog) (fa : Nat → Addr) : Prop where
  gfn : ∀ x f, glob x = some (.fn f) → mg x = some (.ref (fa f)) ∧ PySem.W.keepIn L.K (.ref (fa f)) = true
  gcls : ∀ x k, glob x = some (.cls k) → mg x = some (.ref (L.ca k)) ∧ PySem.W.keepIn L.K (.ref (L.ca k)) = true
  gcon : ∀ x k, glob x = some (.con k) → ∃ d v u, P.con k = some d ∧ mg x = some u ∧ RelV v u ∧ ∀ ρ H, RD L ρ H d v
  gblt : ∀ x, glob x = some .blt → mg x = none
/-- what the text must show of a def -/
def defB (k : Nat) (glob : Str → Option GV) (N : List Str) (fn : Fn) (params : Arguments) (body : List Stmt) (scope : Scope) (pv : Option Str) (dvs : List V) : Bool :=
  plainB params fn.ps pv && (scopeB N (fn.ps ++ pv.toList) scope && (decide (fn.star = pv.isSome) && (decide fn.ps.Nodup && (decide (N.length = fn.n) && (dflsB fn.dfl dvs && (ckSs k ⟨N, scope, fun _ => true, glob⟩ body fn.body).isSome)))))
theorem fnAt_of {f : Nat} {fn : Fn} {k : Nat} {glob : Str → Option GV} {N : List Str} {name qual : Str} {params : Arguments} {body : List Stmt} {scope : Scope} {pv : Option Str} {dvs : List V} {kws : List (Str × V)} {fd : FuncData}
    (F : FunD L.K name qual params body scope dvs kws (fa f) fd) (h : defB k glob N fn params body scope pv dvs = true) (G : Globs glob mg L P fa) (ok : ClsOk L.K L P fa) (xo : XOk prog L.K L P) (ik : IsK L.K L P) (sm : SmOk L.K L P fa) : FnAt prog w mg base L P fa f fn := by
  unfold defB plainB at h
  simp only [Bool.and_eq_true, decide_eq_true_eq, List.isEmpty_iff, Option.isNone_iff_eq_none] at h
  obtain ⟨⟨p1, p2, p3, p4, p5⟩, h2, h3, h4, h5, h6, h7⟩ := h
  obtain ⟨oc, od, dV, kV, doc, pm, an, cdv, ct, osl, rfl, lk, hcd, hD, _⟩ := F.ex
  refine ⟨oc, od, name, qual, params, body, scope, dV, kV, doc, pm, an, cdv, ct, osl, N, pv, lk, hcd, scope_of h2, h3, ⟨p1, p2, p3, p4, p5⟩, h4, h5, ?_, ?_⟩
  · rcases hD with ⟨rfl, rfl⟩ | ⟨_, T, o, its, m, rfl, h8, h9, h10⟩
    · refine .inl ⟨rfl, ?_⟩
      cases q : fn.dfl with
      | nil => rfl
      | cons d ds => rw [q] at h6; simp [dflsB] at h6
    · exact .inr ⟨T, o, its, m, rfl, h8, h9, fun ρ H => stands_of (dflsB_of h6 ρ H) h10⟩
  · intro Φ n A outer s H E hF hr
    have hb := body_of h7
    refine hb _ L _ P Φ fa n ⟨{ hK := rfl, F := hF, room := hr, tk := takes_of rfl rfl rfl rfl, ok := ok, xok := xo, isk := ik, smo := sm, calm := rfl, nd := (scope_of h2).nd, N := rfl, sc := rfl, fnc := fun x _ => rfl, gfn := G.gfn, gcls := G.gcls, gcon := G.gcon, gblt := G.gblt }, passes_of rfl, rfl, rfl⟩
end
end Mi
set_option Elab.async false
set_option linter.all false
set_option maxHeartbeats 1000000
namespace Mi
open PySem PySem.Spec PyProof.Rows L2
structure XDef where
  c : Nat
  B : Nat
  fs : List Str
  name : Str
  qual : Str
  params : Arguments
  body : List Stmt
  scope : Scope
def xB : Nat → String
  | 0 => "ValueError"
  | 1 => "RuntimeError"
  | _ => "LookupError"
def xN : Nat → String
  | 0 => "ValueError.__new__"
  | 1 => "RuntimeError.__new__"
  | _ => "LookupError.__new__"
def xI : Nat → String
  | 0 => "ValueError.__init__"
  | 1 => "RuntimeError.__init__"
  | _ => "LookupError.__init__"
def xM : Nat → List Value
  | 0 => [.type "ValueError", .type "Exception", .type "BaseException", .type "object"]
  | 1 => [.type "RuntimeError", .type "Exception", .type "BaseException", .type "object"]
  | _ => [.type "LookupError", .type "Exception", .type "BaseException", .type "object"]
theorem xF : ∀ b, ExcBaseFacts (xB b) (xN b) (xI b) (xM b)
  | 0 => PySem.F.excBase_ValueError
  | 1 => PySem.F.excBase_RuntimeError
  | _ + 2 => PySem.F.excBase_LookupError
theorem xK : ∀ b, PySem.W.KxsFacts (xB b) (xI b)
  | 0 => PySem.W.kxs_ValueError
  | 1 => PySem.W.kxs_RuntimeError
  | _ + 2 => PySem.W.kxs_LookupError
theorem xS : ∀ b, StoreFacts (xB b) (xM b) "object.__setattr__" "object"
  | 0 => PySem.F.store_ValueError
  | 1 => PySem.F.store_RuntimeError
  | _ + 2 => PySem.F.store_LookupError
/-- where the __init__ of a class lies -/
def fIof (K : PySem.W.Frag) (C : Addr) : Addr := match PySem.W.findIn K (.ref C) "__init__" with
  | some (some (.ref f)) => f
  | _ => 0
abbrev DX : Type := Option (Str × Str × Arguments × FuncBody × Scope × Addr × Addr)
def dwx (K : PySem.W.Frag) (a : Addr) : DX := match K.lookup a with
  | some ⟨_, _, .func fd, _⟩ => some (fd.name, fd.qualname, fd.params, fd.body, fd.scope, fd.globals, fd.builtins)
  | _ => none
def XDef.val (x : XDef) : DX := some (x.name, x.qual, x.params, .stmts x.body, x.scope, mainGlobals, builtinsNs)
/-- the class -/
def xClsB (K : PySem.W.Frag) (C : Addr) (b : Nat) : Bool := match K.lookup C with
  | some ⟨.type t, _, .cls cd, sl⟩ => decide (t = "type") && (cd.hasDict && (!cd.hasDel && ((match cd.mro with
    | .ref C' :: bm => decide (C' = C) && (PySem.W.excTail (xM b) bm && He.eqO (PySem.W.alongIn K "__init__" bm) (some (some (.builtin (xI b)))))
    | _ => false) && (match sl.toList with
    | [_, _, _, _, some (.builtin n), _] => decide (n = xN b)
    | _ => false))))
  | _ => false
/-- its __init__ -/
def xFnB (K : PySem.W.Frag) (C : Addr) (file : Str) (n : Nat) (q : Str) : Bool := match K.lookup (fIof K C) with
  | some ⟨_, _, .func fd, _⟩ => (match fd.code with
    | .ref cda => PySem.W.codeIn K (.ref cda) q && (match K.lookup cda with
      | some ⟨_, _, .fields vs, _⟩ => (match (vs[2]? : Option Value) with
        | some (Value.str fl _) => decide (fl = file)
        | _ => false)
      | _ => false)
    | _ => false) && ((match fd.closure with
    | [(nm, cc)] => decide (nm = "__class__") && (match K.lookup cc with
      | some ⟨_, _, .cell (some (.ref C')), _⟩ => decide (C' = C)
      | _ => false)
    | _ => false) && (match fd.defaults with
    | .none => true
    | .ref T => (match K.lookup T with
      | some ⟨_, _, .seq its _, _⟩ => decide (its.size ≤ n)
      | _ => false)
    | _ => false))
  | _ => false
def XDef.ok (K : PySem.W.Frag) (C : Addr) (file : Str) (x : XDef) : Bool := xClsB K C x.B && (xFnB K C file x.fs.length x.qual && (He.eqO (PySem.W.findIn K (.ref C) "__setattr__") (some (some (.builtin "object.__setattr__"))) && ((x.fs.all fun f => He.eqO (PySem.W.findIn K (.ref C) f) (some none)) &&
  (He.eqO (PySem.W.findIn K (.ref C) "__init__") (some (some (.ref (fIof K C)))) && (decide (PySem.W.typeIn K (.ref (fIof K C)) = some (.type "function")) && (PySem.W.keepIn K (.ref C) && (decide (PySem.W.subIn K (.ref C) (.type "BaseException") = some true) &&
  (decide (PySem.W.typeIn K (.ref C) = some (.type "type")) && (decide (PySem.W.mroIn K C (.type (xB x.B)) = some true) && (decide (PySem.W.mroIn K C (.ref C) = some true) && (He.eqO (PySem.W.nsIn K cStatics "thirdparty.any") (some none) && (He.eqO (PySem.W.nsIn K mainGlobals "super") (some none) &&
  (He.eqO (PySem.W.findIn K (.ref C) "__getattribute__") (some (some (.builtin "BaseException.__getattribute__"))) && (He.eqO (PySem.W.findIn K (.ref C) "__getattr__") (some none) && PySem.W.hasDictIn K C))))))))))))))
/-- its text -/
def XDef.txtB (x : XDef) : Bool := x.params.posonlyargs.isEmpty && (x.params.kwonlyargs.isEmpty && (x.params.kwarg.isNone && (x.params.vararg.isNone && (decide (x.params.args.map (·.arg) = ("self" : Str) :: x.fs) && (Sx.initB x.body x.fs && ((match x.scope.kind with
    | .function => true
    | _ => false) && (!x.scope.isCoroutine && (!x.scope.isGenerator && ((x.scope.names.all fun y => decide (y.2 ≠ .cell)) && (decide (x.scope.names.lookup ("super" : Str) = some .globalImplicit) && (decide (x.scope.names.lookup ("__class__" : Str) = some .free) &&
    (((("self" : Str) :: x.fs).all fun f => decide (x.scope.names.lookup f = some .local) && !(f == ("__debug__" : Str))) && (decide ((("self" : Str) :: x.fs).Nodup) && (decide (x.fs.length ≤ 900) && !x.fs.isEmpty))))))))))))))
theorem XDef.made {prog : Program} {K : PySem.W.Frag} {C : Addr} {file : Str} {x : XDef} (e : dwx K (fIof K C) = x.val) (c : x.ok K C file = true) (t : x.txtB = true) (hf : ((prog.main.file : Str) == file) = true) (htop : (prog.main.scope.names.lookup ("super" : Str)).isSome = false) :
    ∃ its, Sx.XTxt prog K C (fIof K C) (xB x.B) (xI x.B) (xN x.B) (xM x.B) x.fs its := by
  unfold XDef.ok at c
  simp only [Bool.and_eq_true, decide_eq_true_eq, List.all_eq_true] at c
  obtain ⟨c1, c2, c3, c4, c5, c6, c7, c8, c9, c10, c11, c12, c13, c14, c15, c16⟩ := c
  unfold XDef.txtB at t
  simp only [Bool.and_eq_true, decide_eq_true_eq, List.all_eq_true, Bool.not_eq_true', List.isEmpty_iff, Option.isNone_iff_eq_none] at t
  obtain ⟨t1, t2, t3, t4, t5, t6, t7, t8, t9, t10, t11, t12, t13, t14, t15, t16⟩ := t
  have hcls : ∃ nm q N bs bm sn sub ab col dd k0 k1 k2 k3 k5, K.lookup C = some (excClassObj nm q C N bs bm true sn sub ab col dd k0 k1 k2 k3 k5 (xN x.B)) ∧ PySem.W.excTail (xM x.B) bm = true ∧ PySem.W.alongIn K "__init__" bm = some (some (.builtin (xI x.B))) := by
    unfold xClsB at c1
    split at c1
    · next tt dd cd sl e1 =>
      obtain ⟨nm, bs, mro, ns, qn, hd, sn, sb, ab, col, del⟩ := cd
      simp only [Bool.and_eq_true, decide_eq_true_eq, Bool.not_eq_true'] at c1
      obtain ⟨rfl, rfl, rfl, d1, d2⟩ := c1
      split at d1
      · next C' bm =>
        simp only [Bool.and_eq_true, decide_eq_true_eq] at d1
        obtain ⟨rfl, d3, d4⟩ := d1
        split at d2
        · next k0 k1 k2 k3 n k5 e3 =>
          have e4 : n = xN x.B := of_decide_eq_true d2
          subst e4
          have e5 : sl = #[k0, k1, k2, k3, some (.builtin (xN x.B)), k5] := by
            rw [← e3]
          subst e5
          exact ⟨nm, qn, ns, bs, bm, sn, sb, ab, col, dd, k0, k1, k2, k3, k5, e1, d3, He.eqO_ok d4⟩
        · cases d2
      · cases d1
    · cases c1
  unfold xFnB at c2
  unfold dwx at e
  cases q : K.lookup (fIof K C) with
  | none => rw [q] at c2; cases c2
  | some o =>
    obtain ⟨oc, od, dt, osl⟩ := o
    rw [q] at c2 e
    cases dt with
    | func fd =>
      obtain ⟨n1, n2, n3, n4, n5, n6, n7, n8, n9, n10, n11, n12, n13, n14, n15⟩ := fd
      have e2 : (some (n1, n2, n3, n4, n5, n6, n15) : DX) = some (x.name, x.qual, x.params, .stmts x.body, x.scope, mainGlobals, builtinsNs) := e
      simp only [Option.some.injEq, Prod.mk.injEq] at e2
      obtain ⟨h1, h2, h3, h4, h5, h6, h8⟩ := e2
      subst h1 h2 h3 h4 h5 h6 h8
      simp only [Bool.and_eq_true] at c2
      obtain ⟨a1, a2, a3⟩ := c2
      split at a1
      · next cda =>
        simp only [Bool.and_eq_true] at a1
        obtain ⟨a1, a4⟩ := a1
        split at a4
        · next ccl cdd vs ccs g1 =>
          split at a4
          · next fl tf g2 =>
            have g3 : fl = file := of_decide_eq_true a4
            subst g3
            split at a2
            · next nm cc =>
              simp only [Bool.and_eq_true, decide_eq_true_eq] at a2
              obtain ⟨rfl, a2⟩ := a2
              split at a2
              · next cl cld C' csl g5 =>
                have g6 : C' = C := of_decide_eq_true a2
                subst g6
                have hd : ∃ its : List Value, ((n8 = .none ∧ its = []) ∨ ∃ (T : Addr) (o : Obj) (n : Nat), n8 = .ref T ∧ K.lookup T = some o ∧ o.data = .seq its.toArray n) ∧ its.length ≤ x.fs.length := by
                  split at a3
                  · exact ⟨[], .inl ⟨rfl, rfl⟩, Nat.zero_le _⟩
                  · next T =>
                    split at a3
                    · next z1 z2 its z3 z4 g7 =>
                      refine ⟨its.toList, .inr ⟨T, _, z3, rfl, g7, rfl⟩, by simpa using a3⟩
                    · cases a3
                  · cases a3
                obtain ⟨its, hd1, hd2⟩ := hd
                refine ⟨its, { FB := xF _, KF := xK _, SF := xS _, cls := hcls, sa := He.eqO_ok c3, noN := fun f hf => He.eqO_ok (c4 f hf), iC := He.eqO_ok c5, tC := c6, kC := c7, exC := c8, tyC := c9, mB := c10, mC := c11, op := He.eqO_ok c12, sup := He.eqO_ok c13, top := htop, nodup := t14, small := t15, fne := fun z => (by rw [z] at t16; cases t16), fn := ?_ }⟩
                refine ⟨oc, od, _, _, _, _, _, n8, n9, n10, n11, n12, cda, n14, cc, osl, ccl, cdd, vs, ccs, fl, tf, cl, cld, csl, q, a1, g1, g2, hf, g5, t1, t2, t3, t4, t5, t6, ?_, t8, t9, t10, t11, t12, fun f hf => t13 f hf, hd1, hd2⟩
                split at t7
                · assumption
                · cases t7
              · cases a2
            · cases a2
          · cases a4
        · cases a4
      · cases a1
    | _ => cases c2
end Mi
set_option Elab.async false
set_option linter.all false
set_option maxHeartbeats 1000000
namespace Mi
open PySem PySem.Spec PyProof.Rows L2
/-- where a def stands: a global, a class's method, what a class's record (class method, static method, property) holds -/
inductive Loc where
  | glo (x : Str) | meth (C m : Str) | rcd (k : String) (C m : Str)
def recAd (K : PySem.W.Frag) (k : String) (p : Addr) : Addr := match PySem.W.recIn K p k with
  | some (.ref a :: _) => a
  | _ => 0
def Loc.ad (K : PySem.W.Frag) : Loc → Addr
  | .glo x => He.ga K x
  | .meth C m => He.ma K (He.ga K C) m
  | .rcd k C m => recAd K k (He.ma K (He.ga K C) m)
/-- a def: in the text, in Mini -/
structure Def where
  loc : Loc
  name : Str
  qual : Str
  params : Arguments
  body : List Stmt
  scope : Scope
  N : List Str
  pv : Option Str
  fn : Fn
/-- a program's tables -/
structure Tab where
  defs : List Def
  cls : List (Str × List Str)
  globs : List (Str × GV)
  cons : List D
  attrs : List ((Nat × Str) × AK)
  meths : List ((Nat × Str) × MK)
  inits : List (Nat × Nat)
  xs : List XDef := []
  xks : List Nat := []
  iscs : List Nat := []
  subs : List (Nat × Nat) := []
  subTs : List (Nat × String) := []
  file : Str := Str.empty
def Tab.prog (T : Tab) : Prog where
  fn := fun f => (T.defs[f]?).map (·.fn)
  con := fun n => T.cons[n]?
  attr := fun c f => T.attrs.lookup (c, f)
  meth := fun c m => T.meths.lookup (c, m)
  init := fun c => T.inits.lookup c
  exc := fun c => (T.xs.find? fun x => x.c == c).map fun x => (x.fs, [])
  sub := fun c k => decide ((c, k) ∈ T.subs)
  subT := fun c n => decide ((c, n) ∈ T.subTs)
  xk := fun k => decide (k ∈ T.xks)
  isc := fun k => decide (k ∈ T.iscs)
def Tab.cn (T : Tab) (c : Nat) : Str := ((T.cls[c]?).map (·.1)).getD Str.empty
def Tab.lk (T : Tab) (K : PySem.W.Frag) : Lk := ⟨K, fun c => He.ga K (T.cn c), fun c => ((T.cls[c]?).map (·.2)).getD []⟩
def Tab.fa (T : Tab) (K : PySem.W.Frag) : Nat → Addr := fun f => ((T.defs[f]?).map (fun d => d.loc.ad K)).getD 0
def Tab.glob (T : Tab) : Str → Option GV := fun x => T.globs.lookup x
/-- a default's value on the host's side -/
def dV : D → V
  | .bool b => .bl b
  | .int i => .int i
  | .str z => .str z
  | _ => .non
abbrev DW : Type := Option (Str × Str × Arguments × FuncBody × Scope × Addr × List (Str × Addr) × Addr)
def dw (K : PySem.W.Frag) (a : Addr) : DW := match K.lookup a with
  | some ⟨_, _, .func fd, _⟩ => some (fd.name, fd.qualname, fd.params, fd.body, fd.scope, fd.globals, fd.closure, fd.builtins)
  | _ => none
def Def.val (d : Def) : DW := some (d.name, d.qual, d.params, .stmts d.body, d.scope, mainGlobals, [], builtinsNs)
def Def.ok (K : PySem.W.Frag) (d : Def) : Bool := PySem.W.keepIn K (.ref (d.loc.ad K)) && (match K.lookup (d.loc.ad K) with
  | some ⟨_, _, .func fd, _⟩ => PySem.W.codeIn K fd.code d.qual && He.dflB K fd.defaults (d.fn.dfl.map dV)
  | _ => false)
theorem Def.funD {K : PySem.W.Frag} {d : Def} (e : dw K (d.loc.ad K) = d.val) (c : d.ok K = true) : ∃ fd, FunD K d.name d.qual d.params d.body d.scope (d.fn.dfl.map dV) [] (d.loc.ad K) fd := by
  unfold Def.ok at c
  rw [Bool.and_eq_true] at c
  obtain ⟨kp, c2⟩ := c
  unfold dw at e
  cases q : K.lookup (d.loc.ad K) with
  | none => rw [q] at c2; cases c2
  | some o =>
    obtain ⟨oc, od, dt, osl⟩ := o
    rw [q] at c2 e
    cases dt with
    | func fd =>
      obtain ⟨n1, n2, n3, n4, n5, n6, n7, n8, n9, n10, n11, n12, n13, n14, n15⟩ := fd
      have e2 : (some (n1, n2, n3, n4, n5, n6, n7, n15) : DW) = some (d.name, d.qual, d.params, .stmts d.body, d.scope, mainGlobals, [], builtinsNs) := e
      simp only [Option.some.injEq, Prod.mk.injEq] at e2
      obtain ⟨h1, h2, h3, h4, h5, h6, h7, h8⟩ := e2
      subst h1 h2 h3 h4 h5 h6 h7 h8
      have c3 : (PySem.W.codeIn K n13 d.qual && He.dflB K n8 (d.fn.dfl.map dV)) = true := c2
      rw [Bool.and_eq_true] at c3
      exact ⟨_, ⟨oc, od, n8, n9, n10, n11, n12, n13, n14, osl, rfl, q, c3.1, He.dflB_ok c3.2, .inl rfl⟩, kp⟩
    | _ => cases c2
def relD (d : D) (u : Value) : Bool := match d, u with
  | .int i, .int j _ => i == j
  | .str z, .str y _ => decide (z = y)
  | .bool b, .bool b' => b == b'
  | .none, .none => true
  | _, _ => false
theorem relD_ok {L : Lk} {d : D} {u : Value} (h : relD d u = true) : ∃ v, RelV v u ∧ ∀ ρ H, RD L ρ H d v := by
  unfold relD at h
  split at h
  · next i j t => have e := eq_of_beq h; exact ⟨.int i, ⟨t, by rw [e]⟩, fun _ _ => by simp⟩
  · next z y t => have e := of_decide_eq_true h; exact ⟨.str z, ⟨t, by rw [e]⟩, fun _ _ => by simp⟩
  · next b b' => have e := eq_of_beq h; exact ⟨.bl b, by rw [e]; rfl, fun _ _ => by simp⟩
  · exact ⟨.non, rfl, fun _ _ => by simp⟩
  · cases h
def Tab.globB (T : Tab) (K : PySem.W.Frag) (p : Str × GV) : Bool := match p.2 with
  | .fn f => He.eqO (PySem.W.nsIn K mainGlobals p.1) (some (some (.ref (T.fa K f)))) && PySem.W.keepIn K (.ref (T.fa K f))
  | .cls c => He.eqO (PySem.W.nsIn K mainGlobals p.1) (some (some (.ref (He.ga K (T.cn c))))) && PySem.W.keepIn K (.ref (He.ga K (T.cn c)))
  | .con n => (match T.cons[n]?, PySem.W.nsIn K mainGlobals p.1 with
    | some d, some (some u) => relD d u
    | _, _ => false)
  | .blt => He.eqO (PySem.W.nsIn K mainGlobals p.1) (some none)
def clsB (K : PySem.W.Frag) (C : Addr) : Bool := PySem.W.plainGet K C Str.empty && (PySem.W.hasDictIn K C && (PySem.W.plainOver K C && He.eqO (PySem.W.findIn K (.ref C) "__setattr__") (some (some (.builtin "object.__setattr__")))))
theorem clsB_ok {K : PySem.W.Frag} {C : Addr} (h : clsB K C = true) : Cls K C := by
  unfold clsB at h
  simp only [Bool.and_eq_true] at h
  exact ⟨h.1, h.2.1, h.2.2.1, He.eqO_ok h.2.2.2⟩
def creadB (K : PySem.W.Frag) (C : Addr) (mc : Value) : Bool := PySem.W.readsIn K C mc && decide (PySem.W.specialIn K (.ref C) "__getattribute__" = some (some (.builtin "type.__getattribute__")))
def mcOf (K : PySem.W.Frag) (C : Addr) : Value := ((PySem.W.typeIn K (.ref C)).getD .none)
def Tab.attrB (T : Tab) (K : PySem.W.Frag) (p : (Nat × Str) × AK) : Bool := let C := He.ga K (T.cn p.1.1); let fs := ((T.cls[p.1.1]?).map (·.2)).getD []; match p.2 with
  | .fld k => clsB K C && (He.eqO (PySem.W.findIn K (.ref C) p.1.2) (some none) && (decide (fs[k]? = some p.1.2) && (decide fs.Nodup && decide (fs.length < 900))))
  | .prop f => clsB K C && (He.eqO (PySem.W.findIn K (.ref C) p.1.2) (some (some (.ref (He.ma K C p.1.2)))) && (decide (PySem.W.specialIn K (.ref (He.ma K C p.1.2)) "__get__" = some (some (.builtin "property.__get__"))) && (decide (PySem.W.takesIn K (.ref (He.ma K C p.1.2)) = some true) &&
      (match PySem.W.recIn K (He.ma K C p.1.2) "property" with
      | some (.ref g :: _) => g == T.fa K f
      | _ => false))))
  | .con d => creadB K C (mcOf K C) && (match PySem.W.findCls K (.ref C) (mcOf K C) p.1.2 with
    | some (.val u) => relD d u
    | _ => false)
def Tab.methB (T : Tab) (K : PySem.W.Frag) (p : (Nat × Str) × MK) : Bool := let C := He.ga K (T.cn p.1.1); let fs := ((T.cls[p.1.1]?).map (·.2)).getD []; match p.2 with
  | .inst f => clsB K C && (He.eqO (PySem.W.findIn K (.ref C) p.1.2) (some (some (.ref (T.fa K f)))) && (PySem.W.isFn K (.ref (T.fa K f)) && (PySem.W.keepIn K (.ref (T.fa K f)) && decide (p.1.2 ∉ fs))))
  | .cls f => creadB K C (mcOf K C) && ((match PySem.W.findCls K (.ref C) (mcOf K C) p.1.2 with
    | some (.get (.builtin b) (.ref q) .none (.ref C')) => b == "classmethod.__get__" && (q == He.ma K C p.1.2 && C' == C)
    | _ => false) && ((match PySem.W.recIn K (He.ma K C p.1.2) "classmethod" with
      | some (.ref g :: _) => g == T.fa K f
      | _ => false) && PySem.W.fnIn K (T.fa K f)))
  | .stat f => creadB K C (mcOf K C) && ((match PySem.W.findCls K (.ref C) (mcOf K C) p.1.2 with
    | some (.get (.builtin b) (.ref q) .none (.ref C')) => b == "staticmethod.__get__" && (q == He.ma K C p.1.2 && C' == C)
    | _ => false) && ((match PySem.W.recIn K (He.ma K C p.1.2) "staticmethod" with
      | some (.ref g :: _) => g == T.fa K f
      | _ => false) && PySem.W.keepIn K (.ref (T.fa K f))))
def Tab.initB (T : Tab) (K : PySem.W.Frag) (p : Nat × Nat) : Bool := let C := He.ga K (T.cn p.1); PySem.W.makesIn K C && (He.eqO (PySem.W.findIn K (.ref C) "__init__") (some (some (.ref (T.fa K p.2)))) && (PySem.W.isFn K (.ref (T.fa K p.2)) && PySem.W.keepIn K (.ref C)))
/-- the exceptions -/
def Tab.xB (T : Tab) (K : PySem.W.Frag) (x : XDef) : Bool := x.ok K (He.ga K (T.cn x.c)) T.file && (decide (((T.cls[x.c]?).map (·.2)).getD [] = x.fs) && T.xks.all fun k => decide (PySem.W.exmOne K (.ref (He.ga K (T.cn x.c))) (.ref (He.ga K (T.cn k))) = some (decide ((x.c, k) ∈ T.subs))))
/-- isinstance -/
def exCB (K : PySem.W.Frag) (C : Addr) : Bool := (PySem.W.clsIn K C).isSome && (He.eqO (PySem.W.findIn K (.ref C) "__getattribute__") (some (some (.builtin "BaseException.__getattribute__"))) && (He.eqO (PySem.W.findIn K (.ref C) "__getattr__") (some none) && (decide (PySem.W.subIn K (.ref C) (.type "BaseException") = some true) &&
  (He.eqO (PySem.W.findIn K (.ref C) "__class__") (some (some (.builtin "object.__class__"))) && decide (PySem.W.mroIn K C (.type "object") = some true)))))
def obCB (K : PySem.W.Frag) (C : Addr) : Bool := clsB K C && (He.eqO (PySem.W.findIn K (.ref C) "__class__") (some (some (.builtin "object.__class__"))) && decide (PySem.W.mroIn K C (.type "object") = some true))
def Tab.iscB (T : Tab) (K : PySem.W.Frag) (c : Nat) : Bool := He.eqO (PySem.W.specialIn K (.builtin "object.__class__") "__get__") (some (some (.builtin "getset_descriptor.__get__"))) && (decide (PySem.W.takesIn K (.builtin "object.__class__") = some true) && ((kinds.all fun t => decide (PySem.W.kitOne K (.type t) (.ref (He.ga K (T.cn c))) = some false)) &&
  ((T.inits.all fun p => obCB K (He.ga K (T.cn p.1)) && decide (PySem.W.kitOne K (.ref (He.ga K (T.cn p.1))) (.ref (He.ga K (T.cn c))) = some (decide ((p.1, c) ∈ T.subs)))) &&
  T.xs.all fun x => exCB K (He.ga K (T.cn x.c)) && decide (PySem.W.kitOne K (.ref (He.ga K (T.cn x.c))) (.ref (He.ga K (T.cn c))) = some (decide ((x.c, c) ∈ T.subs))))))
def sysB (K : PySem.W.Frag) : Bool := match K.lookup sysModules with
  | some o => (match o.cls with
    | .type z => z == "dict"
    | _ => false)
  | none => false
theorem sysB_ok {K : PySem.W.Frag} (h : sysB K = true) : SysK K := by
  unfold sysB at h
  cases e : K.lookup sysModules with
  | none => rw [e] at h; cases h
  | some o =>
    rw [e] at h
    refine ⟨o, e, ?_⟩
    replace h : (match o.cls with
      | .type z => z == "dict"
      | _ => false) = true := h
    split at h
    · next z e2 => rw [e2, eq_of_beq h]
    · cases h
def Tab.okB (T : Tab) (K : PySem.W.Frag) : Bool := sysB K && ((T.iscs.all fun c => T.iscB K c) && ((T.xs.all fun x => T.xB K x) && ((T.defs.all fun d => d.ok K) && ((T.globs.all fun p => T.globB K p) && ((T.attrs.all fun p => T.attrB K p) && ((T.meths.all fun p => T.methB K p) && T.inits.all fun p => T.initB K p))))))
section
variable {T : Tab} {K : PySem.W.Frag} {h : Heap} {mg : Str → Option Value}
theorem globs_ok (X : K.In h) (G : h.Ns mainGlobals mg) (c : (T.globs.all fun p => T.globB K p) = true) : Globs T.glob mg (T.lk K) T.prog (T.fa K) := by
  have key : ∀ {x gv}, T.glob x = some gv → T.globB K (x, gv) = true := fun e => List.all_eq_true.mp c _ (lookup_mem e)
  refine ⟨fun x f e => ?_, fun x k e => ?_, fun x k e => ?_, fun x e => ?_⟩
  · have z := key e
    simp only [Tab.globB, Bool.and_eq_true] at z
    exact ⟨PySem.W.mg_of X G (He.eqO_ok z.1), z.2⟩
  · have z := key e
    simp only [Tab.globB, Bool.and_eq_true] at z
    exact ⟨PySem.W.mg_of X G (He.eqO_ok z.1), z.2⟩
  · have z := key e
    simp only [Tab.globB] at z
    cases q : T.cons[k]? with
    | none => rw [q] at z; simp at z
    | some d =>
      cases q2 : PySem.W.nsIn K mainGlobals x with
      | none => rw [q, q2] at z; simp at z
      | some o =>
        cases o with
        | none => rw [q, q2] at z; simp at z
        | some u =>
          rw [q, q2] at z
          obtain ⟨v, h1, h2⟩ := relD_ok (L := T.lk K) z
          exact ⟨d, v, u, q, PySem.W.mg_of X G q2, h1, h2⟩
  · have z := key e
    simp only [Tab.globB] at z
    exact PySem.W.mg_none_of X G (He.eqO_ok z)
theorem cread_ok {C : Addr} {mc : Value} (h : creadB K C mc = true) : ClX.CRead K C mc := by
  unfold creadB at h
  simp only [Bool.and_eq_true, decide_eq_true_eq] at h
  exact ⟨h.1, h.2⟩
theorem cls_ok (c1 : (T.attrs.all fun p => T.attrB K p) = true) (c2 : (T.meths.all fun p => T.methB K p) = true) (c3 : (T.inits.all fun p => T.initB K p) = true) : ClsOk K (T.lk K) T.prog (T.fa K) := by
  have ka : ∀ {c f a}, T.prog.attr c f = some a → T.attrB K ((c, f), a) = true := fun e => List.all_eq_true.mp c1 _ (lookup_mem e)
  have km : ∀ {c f a}, T.prog.meth c f = some a → T.methB K ((c, f), a) = true := fun e => List.all_eq_true.mp c2 _ (lookup_mem e)
  have ki : ∀ {c f}, T.prog.init c = some f → T.initB K (c, f) = true := fun e => List.all_eq_true.mp c3 _ (lookup_mem e)
  refine ⟨fun c m f e => ?_, fun c m f e => ?_, fun c g k e => ?_, fun c g f e => ?_, fun c g d e => ?_, fun c f e => ?_⟩
  · unfold instM at e
    cases q : T.prog.meth c m with
    | none => rw [q] at e; cases e
    | some mk =>
      rw [q] at e
      cases mk with
      | inst f' =>
        cases e
        have z := km q
        simp only [Tab.methB, Bool.and_eq_true, decide_eq_true_eq] at z
        obtain ⟨z1, z2, z3, z4, z5⟩ := z
        exact ⟨clsB_ok z1, ⟨He.eqO_ok z2, z3, z4⟩, z5⟩
      | _ => cases e
  · have z := km e
    simp only [Tab.methB, Bool.and_eq_true] at z
    obtain ⟨z1, z2, z3, z4⟩ := z
    refine ⟨_, He.ma K (He.ga K (T.cn c)) m, cread_ok z1, ⟨?_, ?_, z4⟩⟩
    · split at z2
      · next b q C' e1 =>
        simp only [Bool.and_eq_true, beq_iff_eq] at z2
        obtain ⟨rfl, rfl, rfl⟩ := z2
        exact e1
      · cases z2
    · split at z3
      · next g rest e1 =>
        have e2 := eq_of_beq z3
        subst e2
        exact ⟨rest, e1⟩
      · cases z3
  · have z := ka e
    simp only [Tab.attrB, Bool.and_eq_true, decide_eq_true_eq] at z
    obtain ⟨z1, z2, z3, z4, z5⟩ := z
    exact ⟨clsB_ok z1, He.eqO_ok z2, z3, z4, z5⟩
  · have z := ka e
    simp only [Tab.attrB, Bool.and_eq_true, decide_eq_true_eq] at z
    obtain ⟨z1, z2, z3, z4, z5⟩ := z
    refine ⟨clsB_ok z1, _, ⟨He.eqO_ok z2, z3, z4, ?_⟩⟩
    split at z5
    · next g' rest e1 =>
      have e2 := eq_of_beq z5
      subst e2
      exact ⟨rest, e1⟩
    · cases z5
  · have z := ka e
    simp only [Tab.attrB, Bool.and_eq_true] at z
    obtain ⟨z1, z2⟩ := z
    split at z2
    · next u e1 =>
      obtain ⟨v, h1, h2⟩ := relD_ok (L := T.lk K) z2
      exact ⟨_, v, u, cread_ok z1, ⟨e1, h1⟩, h2⟩
    · cases z2
  · have z := ki e
    simp only [Tab.initB, Bool.and_eq_true] at z
    obtain ⟨z1, z2, z3, z4⟩ := z
    exact ⟨z1, He.eqO_ok z2, z3, z4⟩
/-- the exceptions' text -/
def Tab.xtxtB (T : Tab) : Bool := T.xs.all fun x => x.txtB
/-- the exceptions of a program -/
theorem xs_ok {prog : Program} (e : T.xs.map (fun x => dwx K (fIof K (He.ga K (T.cn x.c)))) = T.xs.map XDef.val) (c : (T.xs.all fun x => T.xB K x) = true) (t : T.xtxtB = true)
    (hf : (T.xs.isEmpty || ((prog.main.file : Str) == T.file && !(prog.main.scope.names.lookup ("super" : Str)).isSome)) = true) : XOk prog K (T.lk K) T.prog := by
  have key : ∀ {c ps dfl}, T.prog.exc c = some (ps, dfl) → ∃ x ∈ T.xs, x.c = c ∧ x.fs = ps := fun {c ps dfl} h => by
    obtain ⟨x, h1, h2⟩ := Option.map_eq_some_iff.mp h
    cases h2
    exact ⟨x, List.mem_of_find?_eq_some h1, by have := List.find?_some h1; simpa using this, rfl⟩
  have okx : ∀ x ∈ T.xs, T.xB K x = true := List.all_eq_true.mp c
  refine ⟨⟨fun c ps dfl h => ?_⟩, fun c ps dfl h => ?_, fun c k h hk => ?_⟩
  · obtain ⟨x, hx, rfl, rfl⟩ := key h
    have z := okx x hx
    unfold Tab.xB XDef.ok at z
    simp only [Bool.and_eq_true, decide_eq_true_eq, List.all_eq_true] at z
    obtain ⟨⟨c1, c2, c3, c4, c5, c6, c7, c8, c9, c10, c11, c12, c13, c14, c15, c16⟩, d1, d2⟩ := z
    exact ⟨d1, He.eqO_ok c14, He.eqO_ok c15, c8, c16, fun f hf => He.eqO_ok (c4 f hf)⟩
  · obtain ⟨x, hx, rfl, rfl⟩ := key h
    have z := okx x hx
    unfold Tab.xB at z
    simp only [Bool.and_eq_true] at z
    have hne : T.xs.isEmpty = false := by
      cases q : T.xs with
      | nil => rw [q] at hx; cases hx
      | cons a l => rfl
    rw [hne, Bool.false_or, Bool.and_eq_true, Bool.not_eq_true'] at hf
    have e1 : dwx K (fIof K (He.ga K (T.cn x.c))) = x.val := by
      obtain ⟨i, hi⟩ := List.getElem?_of_mem hx
      have e2 := congrArg (fun l => l[i]?) e
      simp only [List.getElem?_map, hi, Option.map_some, Option.some.injEq] at e2
      exact e2
    obtain ⟨its, hX⟩ := XDef.made e1 z.1 (List.all_eq_true.mp t x hx) hf.1 hf.2
    exact ⟨_, _, _, _, _, _, hX⟩
  · obtain ⟨p, h2⟩ := Option.isSome_iff_exists.mp h
    obtain ⟨ps, dfl⟩ := p
    obtain ⟨x, hx, rfl, rfl⟩ := key h2
    have z := okx x hx
    unfold Tab.xB at z
    simp only [Bool.and_eq_true, List.all_eq_true, decide_eq_true_eq] at z
    exact z.2.2 k (of_decide_eq_true hk)
theorem is_ok (c : (T.iscs.all fun c => T.iscB K c) = true) : IsK K (T.lk K) T.prog := by
  have key : ∀ c, T.prog.isc c = true → T.iscB K c = true := fun k h => List.all_eq_true.mp c k (of_decide_eq_true h)
  refine ⟨fun t ht c h => ?_, fun k f c h1 h2 => ?_, fun k c h1 h2 => ?_, fun c h => ?_⟩
  · have z := key c h
    unfold Tab.iscB at z
    simp only [Bool.and_eq_true, List.all_eq_true, decide_eq_true_eq] at z
    exact z.2.2.1 t ht
  · have z := key c h2
    unfold Tab.iscB at z
    simp only [Bool.and_eq_true, List.all_eq_true] at z
    have z2 := z.2.2.2.1 (k, f) (lookup_mem h1)
    unfold obCB at z2
    simp only [Bool.and_eq_true, decide_eq_true_eq] at z2
    exact ⟨⟨clsB_ok z2.1.1, He.eqO_ok z2.1.2.1, z2.1.2.2⟩, z2.2⟩
  · have z := key c h2
    unfold Tab.iscB at z
    simp only [Bool.and_eq_true, List.all_eq_true] at z
    obtain ⟨p, h3⟩ := Option.isSome_iff_exists.mp h1
    obtain ⟨x, h4, h5⟩ := Option.map_eq_some_iff.mp h3
    have h6 := List.find?_some h4
    have h7 : x.c = k := by simpa using h6
    subst h7
    have z2 := z.2.2.2.2 x (List.mem_of_find?_eq_some h4)
    unfold exCB at z2
    simp only [Bool.and_eq_true, decide_eq_true_eq] at z2
    obtain ⟨⟨a1, a2, a3, a4, a5, a6⟩, a7⟩ := z2
    exact ⟨⟨a1, He.eqO_ok a2, He.eqO_ok a3, a4, He.eqO_ok a5, a6⟩, a7⟩
  · have z := key c h
    unfold Tab.iscB at z
    simp only [Bool.and_eq_true, decide_eq_true_eq] at z
    exact ⟨He.eqO_ok z.1, z.2.1⟩
theorem sm_ok (c : (T.meths.all fun p => T.methB K p) = true) (cs : sysB K = true) : SmOk K (T.lk K) T.prog (T.fa K) := by
  refine ⟨sysB_ok cs, fun c' m f e => ?_⟩
  have z := List.all_eq_true.mp c _ (lookup_mem e)
  simp only [Tab.methB, Bool.and_eq_true] at z
  obtain ⟨z1, z2, z3, z4⟩ := z
  have k2 : PySem.W.findCls K (.ref (He.ga K (T.cn c'))) (mcOf K (He.ga K (T.cn c'))) m = some (.get (.builtin "staticmethod.__get__") (.ref (He.ma K (He.ga K (T.cn c')) m)) .none (.ref (He.ga K (T.cn c')))) := by
    split at z2
    · next b q C' e1 =>
      simp only [Bool.and_eq_true, beq_iff_eq] at z2
      obtain ⟨rfl, rfl, rfl⟩ := z2
      exact e1
    · cases z2
  split at z3
  · next g rest e1 =>
    have e2 := eq_of_beq z3
    subst e2
    exact ⟨mcOf K (He.ga K (T.cn c')), He.ma K (He.ga K (T.cn c')) m, rest, cread_ok z1, k2, e1, z4⟩
  · cases z3
/-- every def of the text is what Mini has -/
def Tab.defsB (T : Tab) (k : Nat) : Bool := T.defs.all fun d => defB k T.glob d.N d.fn d.params d.body d.scope d.pv (d.fn.dfl.map dV)
theorem fns_ok {prog : Program} {w : World} {base : Heap} {k : Nat} (hd : T.defsB k = true) (e : T.defs.map (fun d => dw K (d.loc.ad K)) = T.defs.map Def.val) (c0 : (T.defs.all fun d => d.ok K) = true) (G : Globs T.glob mg (T.lk K) T.prog (T.fa K)) (ok : ClsOk K (T.lk K) T.prog (T.fa K)) (xo : XOk prog K (T.lk K) T.prog) (ik : IsK K (T.lk K) T.prog) (sm : SmOk K (T.lk K) T.prog (T.fa K)) :
    ∀ f fn, T.prog.fn f = some fn → FnAt prog w mg base (T.lk K) T.prog (T.fa K) f fn := by
  intro f fn hf
  obtain ⟨d, h1, rfl⟩ := Option.map_eq_some_iff.mp hf
  have hm := List.mem_of_getElem? h1
  have e1 : dw K (d.loc.ad K) = d.val := by
    have e2 := congrArg (fun l => l[f]?) e
    simp only [List.getElem?_map, h1, Option.map_some, Option.some.injEq] at e2
    exact e2
  obtain ⟨fd, F⟩ := Def.funD e1 (List.all_eq_true.mp c0 d hm)
  have ef : T.fa K f = d.loc.ad K := by
    unfold Tab.fa
    rw [h1]
    rfl
  rw [← ef] at F
  exact fnAt_of (L := T.lk K) F (List.all_eq_true.mp hd d hm) G ok xo ik sm
end
abbrev AlM : Type := Bool × List DW × List DX
def obsM (T : Tab) (K : PySem.W.Frag) : AlM := (T.okB K, T.defs.map (fun d => dw K (d.loc.ad K)), T.xs.map fun x => dwx K (fIof K (He.ga K (T.cn x.c))))
def valM (T : Tab) : AlM := (true, T.defs.map Def.val, T.xs.map XDef.val)
/-- the cells of the exceptions' __init__ -/
def Tab.cells (T : Tab) (K : PySem.W.Frag) : List Addr := T.xs.flatMap fun x => match K.lookup (fIof K (He.ga K (T.cn x.c))) with
  | some ⟨_, _, .func fd, _⟩ => fd.closure.map (·.2)
  | _ => []
def fragM (n : Nat) (T : Tab) (g : Addr → Option Obj) : List Addr := let l := cStatics :: sysModules :: He.asD g n; l ++ T.cells (He.frG g l)
def obsMG (n : Nat) (T : Tab) (g : Addr → Option Obj) : AlM := obsM T (He.frG g (fragM n T g))
def hookM (n : Nat) (T : Tab) : PySem.W.Hook where
  α := AlM
  obs := fun s => obsMG n T s.heap.get?
  val := fun _ => valM T
  says := fun _ h => ∃ K : PySem.W.Frag, K.In h ∧ obsM T K = valM T
  of := fun _ _ e => ⟨_, He.frG_in, e⟩
  keeps := fun _ _ _ ⟨K, hK, c⟩ k => ⟨K, PySem.W.Frag.In.keeps hK k, c⟩
theorem obsMG_eq {n : Nat} {T : Tab} {g : Addr → Option Obj} {s : Shared} (h : ∀ a, g a = s.heap.get? a) : obsMG n T g = (hookM n T).obs s := by
  have e : g = s.heap.get? := funext h
  rw [e] <;> rfl
/-- THE LAW of a program with such tables: what Mini says -/
theorem law_of {T : Tab} {k n lf : Nat} {l : PySem.W.OpenLaw} {m : Nat} {q : Program} {loose : List Str} {XP : (Str → Option Value) → Heap → Prop} {d : DefRec} {x : Str}
    (hm : l.most = some m) (hm2 : m ≤ sizeLine) (hdf : d.params.defaults = []) (hn : n ≤ 100) (hxt : T.xtxtB = true) (hxf : (T.xs.isEmpty || ((l.prog.main.file : Str) == T.file && !(l.prog.main.scope.names.lookup ("super" : Str)).isSome)) = true) (hd : T.defsB k = true) (hx : T.glob x = some (.fn lf)) (hdn : d.name = x)
    (hlaw : ∀ ns : List Int, ns.length ≤ m → ∃ S', callM T.prog (run T.prog n) lf [.list (ns.map .int)] [] [] [] = .ok (.bool true) S') {hops : Nat} :
    PySem.W.WalkO q loose XP (fun w h => (hookM hops T).says w h) l.row.toRowW d [] (fun f vs => PySem.call f vs) := by
  refine Att.attach_call hm hdf fun w s₀ s₁ mg mb fa o pm cd doc a vs ns G Y ho hod hcd hmg hobj hints hlen hg => ?_
  obtain ⟨K, KX, c⟩ := Y
  have c1 : T.okB K = true := congrArg (fun z : AlM => z.1) c
  have c2 : T.defs.map (fun d => dw K (d.loc.ad K)) = T.defs.map Def.val := congrArg (fun z : AlM => z.2.1) c
  have c3 : T.xs.map (fun x => dwx K (fIof K (He.ga K (T.cn x.c)))) = T.xs.map XDef.val := congrArg (fun z : AlM => z.2.2) c
  unfold Tab.okB at c1
  simp only [Bool.and_eq_true] at c1
  obtain ⟨os, oi, o0, o1, o2, o3, o4, o5⟩ := c1
  have GG := globs_ok (T := T) KX G.T.g o2
  have CC := cls_ok (T := T) o3 o4 o5
  have XO := xs_ok (prog := l.prog) c3 o0 hxt hxf
  obtain ⟨S', hS⟩ := hlaw ns hlen
  have e0 := (GG.gfn x lf hx).1
  rw [hdn] at hmg
  rw [hmg] at e0
  cases e0
  exact law_m (L := T.lk K) (P := T.prog) (fa := T.fa K) (n := n) KX G.T.g G.T.b G.T.builtins G.T.nolimit hg hobj hints (Nat.le_trans hlen hm2) hn (fun base hb1 hb2 => fnM_all (fns_ok hd c2 o1 GG CC XO (is_ok oi) (sm_ok o4 os)) n) hS
end Mi
set_option Elab.async false
set_option linter.all false
set_option maxRecDepth 100000
set_option maxHeartbeats 0
namespace Tt
open PySem PySem.Spec PyProof.Rows L2 Mi
def top (i : Nat) : Stmt := PySem.Challenge.pw_treetrain_k13_whole_trunks_and_pivots.main.body.getD i (.Pass ⟨0, 0, 0, 0⟩)
def f_law : Fn := ⟨["script"], [], false, 7, [.set (.n 1) (.call 1 [(.v 0)] [] []),
  .for_ .rng1 [(.bc .min2 [(.c (.int 5)), (.bin .add (.c (.int 2)) (.bin .fdiv (.bc .len [(.v 0)]) (.c (.int 3))))])] (.n 2) [.set (.n 3) (.call 4 [(.v 1), (.c (.int 16))] [] []), .ite (.not_ (.call 13 [(.cm 0 "of" [(.v 3)] [] []), (.call 5 [(.v 3)] [] []), (.bc .listRange [(.c (.int 1)), (.bin .add (.bc .len [(.v 3)]) (.c (.int 2)))])] [] [])) [.ret (.c (.bool false))] []],
  .set (.n 3) (.call 4 [(.v 1), (.c (.int 40))] [] []),
  .ite (.not_ (.call 13 [(.cm 0 "of" [(.v 3)] [] []), (.call 5 [(.v 3)] [] []), (.lc false [2] .rng1 [(.c (.int 3))] (.n 2) [] (.bin .add (.c (.int 1)) (.call 3 [(.v 1), (.c (.int 12))] [] [])))] [] [])) [.ret (.c (.bool false))] [],
  .for_ .rng2 [(.c (.int 1)), (.c (.int 10))] (.n 4) [.par [5, 6] [(.cm 0 "line" [(.v 4)] [] []), (.cm 0 "star" [(.v 4)] [] [])], .ite (.cmp .ne (.list [(.call 30 [(.v 5)] [] []), (.call 30 [(.v 6)] [] [])]) (.list [(.bin .sub (.v 4) (.c (.int 1))), (.bc .min2 [(.bin .sub (.v 4) (.c (.int 1))), (.c (.int 2))])])) [.ret (.c (.bool false))] [], .ite (.or_ [(.cmp .ne (.call 34 [(.v 5), (.c (.int 2))] [] []) (.bc .tupRange [(.c (.int 2)), (.bin .sub (.v 4) (.c (.int 2)))])), (.cmp .ne (.call 35 [(.v 6), (.c (.int 1))] [] []) (.ite (.cmp .gt (.v 4) (.c (.int 3))) (.tup [(.c (.int 0))]) (.tup [])))]) [.ret (.c (.bool false))] []],
  .ret (.c (.bool true))]⟩
def f__law_begin : Fn := ⟨["script"], [], false, 1, [.ret (.mdict [(.c (.str "cells")), (.bin .add (.v 0) (.list [(.c (.int 0))])), (.c (.str "at")), (.c (.int 0)), (.c (.str "left")), (.c (.int 0)), (.c (.str "used")), (.c (.int 0))])]⟩
def f__law_mixed : Fn := ⟨["cell", "k"], [], false, 3, [.set (.n 2) (.bin .mod (.bin .add (.bin .add (.bin .add (.bin .mod (.v 0) (.c (.int 1000000007))) (.bin .mul (.bin .mul (.c (.int 7919)) (.v 1)) (.v 1))) (.bin .mul (.c (.int 31)) (.v 1))) (.c (.int 7))) (.c (.int 2147483647))),
  .set (.n 2) (.bin .mod (.bin .mul (.bin .mod (.bin .mul (.v 2) (.v 2)) (.c (.int 2147483647))) (.v 2)) (.c (.int 2147483629))),
  .ret (.bin .fdiv (.bin .mod (.bin .mul (.v 2) (.bin .add (.c (.int 69621)) (.bin .mul (.c (.int 2)) (.bin .mod (.v 1) (.c (.int 1000)))))) (.c (.int 2147483647))) (.c (.int 7)))]⟩
def f__law_next : Fn := ⟨["draw", "bound"], [], false, 5, [.ite (.cmp .gt (.ix (.v 0) (.c (.str "left"))) (.c (.int 0))) [.set (.n 4) (.bin .mod (.ix (.v 0) (.c (.str "left"))) (.v 1)), .seti (.v 0) (.c (.str "left")) (.bin .fdiv (.ix (.v 0) (.c (.str "left"))) (.v 1)), .ret (.v 4)] [],
  .set (.n 2) (.ix (.v 0) (.c (.str "cells"))),
  .set (.n 3) (.ix (.v 2) (.bin .mod (.ix (.v 0) (.c (.str "at"))) (.bc .len [(.v 2)]))),
  .seti (.v 0) (.c (.str "at")) (.bin .add (.ix (.v 0) (.c (.str "at"))) (.c (.int 1))),
  .ite (.and_ [(.cmp .ge (.v 3) (.bin .pow (.c (.int 10)) (.c (.int 18)))), (.cmp .le (.ix (.v 0) (.c (.str "at"))) (.bc .len [(.v 2)]))]) [.seti (.v 0) (.c (.str "left")) (.bin .fdiv (.v 3) (.v 1)), .ret (.bin .mod (.v 3) (.v 1))] [],
  .seti (.v 0) (.c (.str "used")) (.bin .add (.ix (.v 0) (.c (.str "used"))) (.c (.int 1))),
  .ret (.bin .mod (.call 2 [(.call 2 [(.v 3), (.ix (.v 0) (.c (.str "at")))] [] []), (.ix (.v 0) (.c (.str "used")))] [] []) (.v 1))]⟩
def f__law_tracks : Fn := ⟨["draw", "most"], [], false, 9, [.par [4, 5, 6] [(.bin .add (.c (.int 1)) (.call 3 [(.v 0), (.v 1)] [] [])), (.call 3 [(.v 0), (.c (.int 5))] [] []), (.mlist [])],
  .for_ .rng2 [(.c (.int 1)), (.v 4)] (.n 2) [.set (.n 7) (.ix (.list [(.bin .sub (.v 2) (.c (.int 1))), (.c (.int 0)), (.bc .max2 [(.c (.int 0)), (.bin .sub (.v 2) (.c (.int 2)))]), (.bc .max2 [(.c (.int 0)), (.bin .sub (.v 2) (.c (.int 3)))]), (.bin .fdiv (.v 2) (.c (.int 2)))]) (.v 5)), .set (.n 8) (.ite (.cmp .gt (.call 3 [(.v 0), (.c (.int 4))] [] []) (.c (.int 0))) (.v 7) (.call 3 [(.v 0), (.v 2)] [] [])), .ex (.bm .append (.v 6) [(.ite (.cmp .eq (.call 3 [(.v 0), (.c (.int 2))] [] []) (.c (.int 0))) (.tup [(.v 8), (.v 2)]) (.tup [(.v 2), (.v 8)]))])],
  .set (.n 3) (.call 3 [(.v 0), (.bin .add (.bc .len [(.v 6)]) (.c (.int 1)))] [] []),
  .ret (.bc .tuple [(.bin .add (.sl (.v 6) (.v 3) (.c .none)) (.sl (.v 6) (.c .none) (.v 3)))])]⟩
def f__law_around : Fn := ⟨["tracks"], [], false, 6, [.set (.n 1) (.lc false [4] .rng1 [(.bin .add (.bc .len [(.v 0)]) (.c (.int 1)))] (.n 4) [] (.mlist [])),
  .for_ .seq [(.v 0)] (.t [(.n 2), (.n 3)]) [.ex (.bm .append (.ix (.v 1) (.v 2)) [(.v 3)]), .ex (.bm .append (.ix (.v 1) (.v 3)) [(.v 2)])],
  .ret (.lc false [5] .seq [(.v 1)] (.n 5) [] (.bc .sorted [(.v 5)]))]⟩
def f__law_paths : Fn := ⟨["around", "start"], [], false, 6, [.par [2, 3] [(.mdict [(.v 1), (.tup [(.v 1)])]), (.mlist [(.v 1)])],
  .while_ 1000 (.cmp .ne (.v 3) (.list [])) [.set (.n 4) (.bm .popAt (.v 3) [(.c (.int 0))]), .for_ .seq [(.ix (.v 0) (.v 4))] (.n 5) [.ite (.cmp .nin (.v 5) (.v 2)) [.seti (.v 2) (.v 5) (.bin .add (.ix (.v 2) (.v 4)) (.tup [(.v 5)])), .ex (.bm .append (.v 3) [(.v 5)])] []]],
  .ret (.v 2)]⟩
def f__law_behind : Fn := ⟨["around", "spot", "seen"], [], false, 9, [.set (.n 3) (.ix (.ix (.call 6 [(.v 0), (.v 1)] [] []) (.v 2)) (.c (.int 1))),
  .set (.t [(.n 4), (.n 5)]) (.tup [(.list [(.v 1)]), (.mlist [(.v 1)])]),
  .while_ 1000 (.cmp .ne (.v 5) (.list [])) [.set (.n 6) (.bm .popAt (.v 5) [(.c (.int 0))]), .set (.n 7) (.lc false [8] .seq [(.ix (.v 0) (.v 6))] (.n 8) [(.and_ [(.cmp .nin (.v 8) (.v 4)), (.or_ [(.cmp .ne (.v 6) (.v 1)), (.cmp .ne (.v 8) (.v 3))])])] (.v 8)), .set (.t [(.n 4), (.n 5)]) (.tup [(.bin .add (.v 4) (.v 7)), (.addm (.v 5) (.v 7))])],
  .ret (.bc .sorted [(.v 4)])]⟩
def f__law_depth : Fn := ⟨["around", "spot", "seen"], [], false, 5, [.set (.n 3) (.call 6 [(.v 0), (.v 1)] [] []),
  .ret (.bc .max1 [(.lc false [4] .seq [(.call 7 [(.v 0), (.v 1), (.v 2)] [] [])] (.n 4) [] (.bin .sub (.bc .len [(.ix (.v 3) (.v 4))]) (.c (.int 1))))])]⟩
def f__law_depths : Fn := ⟨["around"], [], false, 4, [.set (.n 1) (.mlist []),
  .for_ .rng1 [(.bc .len [(.v 0)])] (.n 2) [.ex (.bm .append (.v 1) [(.lc false [3] .seq [(.ix (.v 0) (.v 2))] (.n 3) [] (.tup [(.v 3), (.bin .add (.c (.int 1)) (.call 8 [(.v 0), (.v 3), (.v 2)] [] []))]))])],
  .ret (.fz (.v 1))]⟩
def f__law_widest : Fn := ⟨["around"], [], false, 3, [.ret (.bc .max1 [(.lc false [1] .rng1 [(.bc .len [(.v 0)])] (.n 1) [] (.bc .max1 [(.lc false [2] .vals [(.vals (.call 6 [(.v 0), (.v 1)] [] []))] (.n 2) [] (.bin .sub (.bc .len [(.v 2)]) (.c (.int 1))))]))])]⟩
def f__law_is_joined : Fn := ⟨["around", "some"], [], false, 6, [.set (.n 2) (.slm (.v 1) (.c .none) (.c (.int 1))),
  .for_ .seq [(.v 1)] (.n 3) [.for_ .seq [(.v 1)] (.n 4) [.ite (.and_ [(.cmp .nin (.v 4) (.v 2)), (.cmp .ne (.lc false [5] .seq [(.ix (.v 0) (.v 4))] (.n 5) [(.cmp .in_ (.v 5) (.v 2))] (.v 5)) (.list []))]) [.ex (.bm .append (.v 2) [(.v 4)])] []]],
  .ret (.cmp .eq (.bc .len [(.v 2)]) (.bc .len [(.v 1)]))]⟩
def f__law_length_right : Fn := ⟨["road", "around", "depths", "many"], [], false, 12, [.set (.n 4) (.mlist []),
  .for_ .rng1 [(.bc .len [(.v 1)])] (.n 5) [.ex (.bm .append (.v 4) [(.lc false [10, 11] .seq [(.ix (.v 2) (.v 5))] (.t [(.n 10), (.n 11)]) [(.cmp .ge (.v 11) (.v 3))] (.v 10))]), .ite (.cmp .ne (.bc .repr [(.call 32 [(.v 0), (.v 5), (.v 3)] [] [])]) (.bc .repr [(.bc .tuple [(.ix (.v 4) (.v 5))])])) [.ret (.c (.bool false))] []],
  .set (.n 6) (.bc .tuple [(.lc false [5] .rng1 [(.bc .len [(.v 1)])] (.n 5) [(.cmp .gt (.bc .len [(.ix (.v 4) (.v 5))]) (.c (.int 1)))] (.v 5))]),
  .set (.n 7) (.bc .tuple [(.lc false [5] .rng1 [(.bc .len [(.v 1)])] (.n 5) [(.cmp .gt (.bc .len [(.ix (.v 4) (.v 5))]) (.c (.int 2)))] (.v 5))]),
  .ite (.cmp .ne (.bc .repr [(.list [(.call 34 [(.v 0), (.v 3)] [] []), (.call 34 [] ["length", "railway"] [(.v 3), (.v 0)])])]) (.bc .repr [(.list [(.v 6), (.v 6)])])) [.ret (.c (.bool false))] [],
  .ite (.cmp .ne (.bc .repr [(.list [(.call 35 [(.v 0), (.v 3)] [] []), (.call 35 [] ["length", "railway"] [(.v 3), (.v 0)])])]) (.bc .repr [(.list [(.v 7), (.v 7)])])) [.ret (.c (.bool false))] [],
  .ite (.not_ (.call 11 [(.v 1), (.bc .list [(.v 6)])] [] [])) [.ret (.c (.bool false))] [],
  .for_ .seq [(.v 6)] (.n 5) [.set (.n 9) (.lc false [10] .seq [(.ix (.v 1) (.v 5))] (.n 10) [(.cmp .in_ (.v 10) (.v 6))] (.v 10)), .ite (.or_ [(.cmp .ne (.lc false [10] .seq [(.v 9)] (.n 10) [(.cmp .nin (.v 10) (.ix (.v 4) (.v 5)))] (.v 10)) (.list [])), (.and_ [(.cmp .eq (.v 7) (.tup [])), (.cmp .gt (.bc .len [(.v 9)]) (.c (.int 2)))])]) [.ret (.c (.bool false))] []],
  .set (.n 8) (.lc false [5] .seq [(.call 34 [(.v 0), (.bin .add (.v 3) (.c (.int 1)))] [] [])] (.n 5) [(.cmp .nin (.v 5) (.v 6))] (.v 5)),
  .ret (.cmp .eq (.bin .add (.v 8) (.lc false [5] .seq [(.call 35 [(.v 0), (.bin .add (.v 3) (.c (.int 1)))] [] [])] (.n 5) [(.cmp .nin (.v 5) (.v 7))] (.v 5))) (.list []))]⟩
def f__law_right : Fn := ⟨["road", "around", "some"], [], false, 7, [.par [5, 6] [(.call 10 [(.v 1)] [] []), (.call 9 [(.v 1)] [] [])],
  .ite (.cmp .ne (.bc .repr [(.list [(.call 30 [(.v 0)] [] []), (.call 30 [] ["railway"] [(.v 0)])])]) (.bc .repr [(.list [(.v 5), (.v 5)])])) [.ret (.c (.bool false))] [],
  .for_ .seq [(.v 2)] (.n 3) [.ite (.or_ [(.not_ (.call 12 [(.v 0), (.v 1), (.v 6), (.v 3)] [] [])), (.cmp .ne (.cmp .ne (.call 34 [(.v 0), (.v 3)] [] []) (.tup [])) (.cmp .ge (.v 5) (.bin .mul (.c (.int 2)) (.v 3))))]) [.ret (.c (.bool false))] []],
  .set (.n 4) (.list [(.call 34 [(.v 0), (.bin .pow (.c (.int 10)) (.c (.int 40)))] [] []), (.call 35 [(.v 0), (.bin .add (.v 5) (.c (.int 1)))] [] []), (.call 32 [] ["station", "length", "railway"] [(.c (.int 0)), (.bin .add (.v 5) (.c (.int 1))), (.v 0)])]),
  .ret (.cmp .eq (.v 4) (.list [(.tup []), (.tup []), (.tup [])]))]⟩
def f_is_integer : Fn := ⟨["value"], [], false, 1, [.ret (.and_ [(.isi (.v 0) [.b "int"]), (.not_ (.isi (.v 0) [.b "bool"]))])]⟩
def f_is_track : Fn := ⟨["value", "count"], [], false, 2, [.ite (.or_ [(.not_ (.isi (.v 0) [.b "tuple"])), (.cmp .ne (.bc .len [(.v 0)]) (.c (.int 2))), (.not_ (.call 14 [(.ix (.v 0) (.c (.int 0)))] [] [])), (.not_ (.call 14 [(.ix (.v 0) (.c (.int 1)))] [] []))]) [.ret (.c (.bool false))] [],
  .ret (.and_ [(.cmp2 .le .lt (.c (.int 0)) (.ix (.v 0) (.c (.int 0))) (.v 1)), (.cmp2 .le .lt (.c (.int 0)) (.ix (.v 0) (.c (.int 1))) (.v 1)), (.cmp .ne (.ix (.v 0) (.c (.int 0))) (.ix (.v 0) (.c (.int 1))))])]⟩
def f_track_faults : Fn := ⟨["tracks"], [], false, 8, [.set (.n 1) (.bin .add (.bc .len [(.v 0)]) (.c (.int 1))),
  .ite (.cmp .gt (.v 1) (.cattr 0 "MOST_STATIONS")) [.ret (.list [(.c .none)])] [],
  .set (.n 2) (.bc .listRange [(.v 1)]),
  .for_ .enumT [(.v 0)] (.t [(.n 3), (.n 4)]) [.ite (.or_ [(.not_ (.call 15 [(.v 4), (.v 1)] [] [])), (.cmp .eq (.ix (.v 2) (.ix (.v 4) (.c (.int 0)))) (.ix (.v 2) (.ix (.v 4) (.c (.int 1)))))]) [.ret (.list [(.v 3)])] [], .set (.t [(.n 5), (.n 6)]) (.tup [(.ix (.v 2) (.ix (.v 4) (.c (.int 0)))), (.ix (.v 2) (.ix (.v 4) (.c (.int 1))))]), .set (.n 2) (.lc false [7] .seq [(.v 2)] (.n 7) [] (.ite (.cmp .eq (.v 7) (.v 6)) (.v 5) (.v 7)))],
  .ret (.list [])]⟩
def f_hops_from : Fn := ⟨["links", "start"], [], false, 7, [.par [3, 4] [(.mulm (.list [(.c (.int 0))]) (.bc .len [(.v 0)])), (.mulm (.list [(.v 1)]) (.bc .len [(.v 0)]))],
  .set (.n 2) (.mlist [(.v 1)]),
  .while_ 1000 (.cmp .ne (.v 2) (.list [])) [.set (.n 5) (.bm .pop (.v 2) []), .for_ .seq [(.ix (.v 0) (.v 5))] (.n 6) [.ite (.cmp .ne (.v 6) (.ix (.v 4) (.v 5))) [.seti (.v 3) (.v 6) (.bin .add (.ix (.v 3) (.v 5)) (.c (.int 1))), .seti (.v 4) (.v 6) (.v 5), .ex (.bm .append (.v 2) [(.v 6)])] []]],
  .ret (.tup [(.fz (.v 3)), (.fz (.v 4))])]⟩
def f_Railway_init : Fn := ⟨["self"], [], true, 11, [.for_ .seq [(.call 16 [(.v 1)] [] [])] (.n 2) [.dead],
  .set (.n 3) (.lc false [7] .rng1 [(.bin .add (.bc .len [(.v 1)]) (.c (.int 1)))] (.n 7) [] (.mlist [])),
  .for_ .seq [(.v 1)] (.t [(.n 5), (.n 6)]) [.ex (.bm .append (.ix (.v 3) (.v 5)) [(.v 6)]), .ex (.bm .append (.ix (.v 3) (.v 6)) [(.v 5)])],
  .seta (.v 0) "links" (.lc false [8] .seq [(.v 3)] (.n 8) [] (.bc .tuple [(.bc .sorted [(.v 8)])])),
  .set (.n 4) (.lc false [7] .rng1 [(.bc .len [(.v 3)])] (.n 7) [] (.call 17 [(.attr (.v 0) "links"), (.v 7)] [] [])),
  .seta (.v 0) "gaps" (.lc false [9, 10] .seq [(.v 4)] (.t [(.n 9), (.n 10)]) [] (.v 9)),
  .seta (.v 0) "hops" (.lc false [9, 10] .seq [(.v 4)] (.t [(.n 9), (.n 10)]) [] (.v 10))]⟩
def f_Railway_of : Fn := ⟨["cls", "tracks"], [], false, 2, [.ite (.not_ (.isi (.v 1) [.b "tuple"])) [.dead] [],
  .ret (.mkv true (.v 0) [(.st (.v 1))])]⟩
def f_Railway_line : Fn := ⟨["cls", "count"], [], false, 3, [.ex (.cs 0 "check_count" [(.v 1)] [] []),
  .ret (.cmv (.v 0) "of" [(.bc .tuple [(.lc false [2] .rng1 [(.bin .sub (.v 1) (.c (.int 1)))] (.n 2) [] (.tup [(.v 2), (.bin .add (.v 2) (.c (.int 1)))]))])] [] [])]⟩
def f_Railway_star : Fn := ⟨["cls", "count"], [], false, 3, [.ex (.cs 0 "check_count" [(.v 1)] [] []),
  .ret (.cmv (.v 0) "of" [(.bc .tuple [(.lc false [2] .rng2 [(.c (.int 1)), (.v 1)] (.n 2) [] (.tup [(.c (.int 0)), (.v 2)]))])] [] [])]⟩
def f_Railway_check_count : Fn := ⟨["count"], [], false, 1, [.ite (.or_ [(.not_ (.call 14 [(.v 0)] [] [])), (.not_ (.cmp2 .le .le (.c (.int 1)) (.v 0) (.cattr 0 "MOST_STATIONS")))]) [.dead] []]⟩
def f_Railway_has_station : Fn := ⟨["self", "value"], [], false, 2, [.ret (.and_ [(.call 14 [(.v 1)] [] []), (.cmp2 .le .lt (.c (.int 0)) (.v 1) (.bc .len [(.attr (.v 0) "links")]))])]⟩
def f_Railway_check_station : Fn := ⟨["self", "value"], [], false, 2, [.ite (.not_ (.meth (.v 0) "has_station" [(.v 1)] [] [])) [.dead] []]⟩
def f_Railway_size : Fn := ⟨["self"], [], false, 1, [.ret (.bc .len [(.attr (.v 0) "links")])]⟩
def f_check_length : Fn := ⟨["length"], [], false, 1, [.ite (.or_ [(.not_ (.call 14 [(.v 0)] [] [])), (.cmp .lt (.v 0) (.c (.int 1)))]) [.dead] []]⟩
def f_stations_behind : Fn := ⟨["railway", "station", "seen_from"], [], false, 7, [.set (.n 3) (.ix (.ix (.attr (.v 0) "gaps") (.v 2)) (.v 1)),
  .set (.t [(.n 4), (.n 5)]) (.tup [(.ix (.attr (.v 0) "gaps") (.v 2)), (.ix (.attr (.v 0) "gaps") (.v 1))]),
  .ret (.lc false [6] .rng1 [(.attr (.v 0) "size")] (.n 6) [(.cmp .eq (.ix (.v 4) (.v 6)) (.bin .add (.v 3) (.ix (.v 5) (.v 6))))] (.v 6))]⟩
def f_depth_of : Fn := ⟨["railway", "station", "seen_from"], [], false, 5, [.set (.n 3) (.ix (.attr (.v 0) "gaps") (.v 1)),
  .ret (.bc .max1 [(.lc false [4] .seq [(.call 27 [(.v 0), (.v 1), (.v 2)] [] [])] (.n 4) [] (.ix (.v 3) (.v 4)))])]⟩
def f_depths_around : Fn := ⟨["railway", "station"], [], false, 3, [.ret (.lc false [2] .seq [(.ix (.attr (.v 0) "links") (.v 1))] (.n 2) [] (.tup [(.v 2), (.bin .add (.c (.int 1)) (.call 28 [(.v 0), (.v 2), (.v 1)] [] []))]))]⟩
def f_diameter : Fn := ⟨["railway"], [], false, 2, [.ret (.bc .max1 [(.lc false [1] .seq [(.attr (.v 0) "gaps")] (.n 1) [] (.bc .max1 [(.v 1)]))])]⟩
def f_deep_names : Fn := ⟨["railway", "station", "length"], [], false, 5, [.ret (.lc false [3, 4] .seq [(.call 29 [(.v 0), (.v 1)] [] [])] (.t [(.n 3), (.n 4)]) [(.cmp .ge (.v 4) (.v 2))] (.v 3))]⟩
def f_deep_branches : Fn := ⟨["railway", "station", "length"], [], false, 3, [.ex (.meth (.v 0) "check_station" [(.v 1)] [] []),
  .ex (.call 26 [(.v 2)] [] []),
  .ret (.bc .tuple [(.call 31 [(.v 0), (.v 1), (.v 2)] [] [])])]⟩
def f_joints : Fn := ⟨["railway", "length", "least"], [], false, 5, [.ex (.call 26 [(.v 1)] [] []),
  .set (.n 3) (.mlist []),
  .for_ .rng1 [(.attr (.v 0) "size")] (.n 4) [.ite (.cmp .ge (.bc .len [(.call 31 [(.v 0), (.v 4), (.v 1)] [] [])]) (.v 2)) [.ex (.bm .append (.v 3) [(.v 4)])] []],
  .ret (.bc .tuple [(.v 3)])]⟩
def f_trunk : Fn := ⟨["railway", "length"], [], false, 2, [.ret (.call 33 [(.v 0), (.v 1), (.c (.int 2))] [] [])]⟩
def f_pivots : Fn := ⟨["railway", "length"], [], false, 2, [.ret (.call 33 [(.v 0), (.v 1), (.c (.int 3))] [] [])]⟩
abbrev i_law : Nat := 0
abbrev i__law_begin : Nat := 1
abbrev i__law_mixed : Nat := 2
abbrev i__law_next : Nat := 3
abbrev i__law_tracks : Nat := 4
abbrev i__law_around : Nat := 5
abbrev i__law_paths : Nat := 6
abbrev i__law_behind : Nat := 7
abbrev i__law_depth : Nat := 8
abbrev i__law_depths : Nat := 9
abbrev i__law_widest : Nat := 10
abbrev i__law_is_joined : Nat := 11
abbrev i__law_length_right : Nat := 12
abbrev i__law_right : Nat := 13
abbrev i_is_integer : Nat := 14
abbrev i_is_track : Nat := 15
abbrev i_track_faults : Nat := 16
abbrev i_hops_from : Nat := 17
abbrev i_Railway_init : Nat := 18
abbrev i_Railway_of : Nat := 19
abbrev i_Railway_line : Nat := 20
abbrev i_Railway_star : Nat := 21
abbrev i_Railway_check_count : Nat := 22
abbrev i_Railway_has_station : Nat := 23
abbrev i_Railway_check_station : Nat := 24
abbrev i_Railway_size : Nat := 25
abbrev i_check_length : Nat := 26
abbrev i_stations_behind : Nat := 27
abbrev i_depth_of : Nat := 28
abbrev i_depths_around : Nat := 29
abbrev i_diameter : Nat := 30
abbrev i_deep_names : Nat := 31
abbrev i_deep_branches : Nat := 32
abbrev i_joints : Nat := 33
abbrev i_trunk : Nat := 34
abbrev i_pivots : Nat := 35
def tDefs0 : List Def := [⟨.glo "law", "law", "law", defArgs (top 55), defBody (top 55), defScope (top 55), ["script", "draw", "turn", "tracks", "count", "line", "star"], none, f_law⟩,
    ⟨.glo "_law_begin", "_law_begin", "_law_begin", defArgs (top 42), defBody (top 42), defScope (top 42), ["script"], none, f__law_begin⟩,
    ⟨.glo "_law_mixed", "_law_mixed", "_law_mixed", defArgs (top 43), defBody (top 43), defScope (top 43), ["cell", "k", "mixed"], none, f__law_mixed⟩,
    ⟨.glo "_law_next", "_law_next", "_law_next", defArgs (top 44), defBody (top 44), defScope (top 44), ["draw", "bound", "cells", "cell", "found"], none, f__law_next⟩,
    ⟨.glo "_law_tracks", "_law_tracks", "_law_tracks", defArgs (top 45), defBody (top 45), defScope (top 45), ["draw", "most", "spot", "at", "count", "shape", "found", "back", "other"], none, f__law_tracks⟩,
    ⟨.glo "_law_around", "_law_around", "_law_around", defArgs (top 46), defBody (top 46), defScope (top 46), ["tracks", "found", "one", "other", "spot", "row"], none, f__law_around⟩,
    ⟨.glo "_law_paths", "_law_paths", "_law_paths", defArgs (top 47), defBody (top 47), defScope (top 47), ["around", "start", "found", "fresh", "spot", "far"], none, f__law_paths⟩,
    ⟨.glo "_law_behind", "_law_behind", "_law_behind", defArgs (top 48), defBody (top 48), defScope (top 48), ["around", "spot", "seen", "shut", "found", "fresh", "here", "more", "far"], none, f__law_behind⟩,
    ⟨.glo "_law_depth", "_law_depth", "_law_depth", defArgs (top 49), defBody (top 49), defScope (top 49), ["around", "spot", "seen", "paths", "far"], none, f__law_depth⟩,
    ⟨.glo "_law_depths", "_law_depths", "_law_depths", defArgs (top 50), defBody (top 50), defScope (top 50), ["around", "found", "spot", "far"], none, f__law_depths⟩,
    ⟨.glo "_law_widest", "_law_widest", "_law_widest", defArgs (top 51), defBody (top 51), defScope (top 51), ["around", "spot", "row"], none, f__law_widest⟩,
    ⟨.glo "_law_is_joined", "_law_is_joined", "_law_is_joined", defArgs (top 52), defBody (top 52), defScope (top 52), ["around", "some", "found", "turn", "spot", "far"], none, f__law_is_joined⟩]
def tDefs1 : List Def := [⟨.glo "_law_length_right", "_law_length_right", "_law_length_right", defArgs (top 53), defBody (top 53), defScope (top 53), ["road", "around", "depths", "many", "deep", "spot", "double", "triple", "more", "near", "far", "depth"], none, f__law_length_right⟩,
    ⟨.glo "_law_right", "_law_right", "_law_right", defArgs (top 54), defBody (top 54), defScope (top 54), ["road", "around", "some", "many", "told", "wide", "depths"], none, f__law_right⟩,
    ⟨.glo "is_integer", "is_integer", "is_integer", defArgs (top 24), defBody (top 24), defScope (top 24), ["value"], none, f_is_integer⟩,
    ⟨.glo "is_track", "is_track", "is_track", defArgs (top 25), defBody (top 25), defScope (top 25), ["value", "count"], none, f_is_track⟩,
    ⟨.glo "track_faults", "track_faults", "track_faults", defArgs (top 26), defBody (top 26), defScope (top 26), ["tracks", "count", "group", "position", "track", "kept", "gone", "one"], none, f_track_faults⟩,
    ⟨.glo "hops_from", "hops_from", "hops_from", defArgs (top 27), defBody (top 27), defScope (top 27), ["links", "start", "waiting", "far", "back", "station", "other"], none, f_hops_from⟩,
    ⟨.meth "Railway" "__init__", "__init__", "Railway.__init__", defArgs (inClass (top 28) 1), defBody (inClass (top 28) 1), defScope (inClass (top 28) 1), ["self", "tracks", "position", "links", "rows", "one", "other", "station", "some", "far", "back"], some "tracks", f_Railway_init⟩,
    ⟨.rcd "classmethod" "Railway" "of", "of", "Railway.of", defArgs (inClass (top 28) 3), defBody (inClass (top 28) 3), defScope (inClass (top 28) 3), ["cls", "tracks"], none, f_Railway_of⟩,
    ⟨.rcd "classmethod" "Railway" "line", "line", "Railway.line", defArgs (inClass (top 28) 4), defBody (inClass (top 28) 4), defScope (inClass (top 28) 4), ["cls", "count", "station"], none, f_Railway_line⟩,
    ⟨.rcd "classmethod" "Railway" "star", "star", "Railway.star", defArgs (inClass (top 28) 5), defBody (inClass (top 28) 5), defScope (inClass (top 28) 5), ["cls", "count", "station"], none, f_Railway_star⟩,
    ⟨.rcd "staticmethod" "Railway" "check_count", "check_count", "Railway.check_count", defArgs (inClass (top 28) 7), defBody (inClass (top 28) 7), defScope (inClass (top 28) 7), ["count"], none, f_Railway_check_count⟩,
    ⟨.meth "Railway" "has_station", "has_station", "Railway.has_station", defArgs (inClass (top 28) 10), defBody (inClass (top 28) 10), defScope (inClass (top 28) 10), ["self", "value"], none, f_Railway_has_station⟩]
def tDefs2 : List Def := [⟨.meth "Railway" "check_station", "check_station", "Railway.check_station", defArgs (inClass (top 28) 11), defBody (inClass (top 28) 11), defScope (inClass (top 28) 11), ["self", "value"], none, f_Railway_check_station⟩,
    ⟨.rcd "property" "Railway" "size", "size", "Railway.size", defArgs (inClass (top 28) 8), defBody (inClass (top 28) 8), defScope (inClass (top 28) 8), ["self"], none, f_Railway_size⟩,
    ⟨.glo "check_length", "check_length", "check_length", defArgs (top 30), defBody (top 30), defScope (top 30), ["length"], none, f_check_length⟩,
    ⟨.glo "stations_behind", "stations_behind", "stations_behind", defArgs (top 32), defBody (top 32), defScope (top 32), ["railway", "station", "seen_from", "ahead", "gaps", "own", "other"], none, f_stations_behind⟩,
    ⟨.glo "depth_of", "depth_of", "depth_of", defArgs (top 33), defBody (top 33), defScope (top 33), ["railway", "station", "seen_from", "own", "other"], none, f_depth_of⟩,
    ⟨.glo "depths_around", "depths_around", "depths_around", defArgs (top 34), defBody (top 34), defScope (top 34), ["railway", "station", "other"], none, f_depths_around⟩,
    ⟨.glo "diameter", "diameter", "diameter", defArgs (top 35), defBody (top 35), defScope (top 35), ["railway", "row"], none, f_diameter⟩,
    ⟨.glo "deep_names", "deep_names", "deep_names", defArgs (top 36), defBody (top 36), defScope (top 36), ["railway", "station", "length", "other", "depth"], none, f_deep_names⟩,
    ⟨.glo "deep_branches", "deep_branches", "deep_branches", defArgs (top 37), defBody (top 37), defScope (top 37), ["railway", "station", "length"], none, f_deep_branches⟩,
    ⟨.glo "joints", "joints", "joints", defArgs (top 38), defBody (top 38), defScope (top 38), ["railway", "length", "least", "found", "station"], none, f_joints⟩,
    ⟨.glo "trunk", "trunk", "trunk", defArgs (top 39), defBody (top 39), defScope (top 39), ["railway", "length"], none, f_trunk⟩,
    ⟨.glo "pivots", "pivots", "pivots", defArgs (top 40), defBody (top 40), defScope (top 40), ["railway", "length"], none, f_pivots⟩]
def tGlobs0 : List (Str × GV) := [("_law_begin", .fn 1), ("range", .blt), ("min", .blt), ("len", .blt), ("_law_tracks", .fn 4), ("_law_right", .fn 13), ("Railway", .cls 0), ("_law_around", .fn 5), ("list", .blt), ("_law_next", .fn 3), ("diameter", .fn 30), ("trunk", .fn 34)]
def tGlobs1 : List (Str × GV) := [("tuple", .blt), ("pivots", .fn 35), ("_law_mixed", .fn 2), ("max", .blt), ("sorted", .blt), ("_law_paths", .fn 6), ("_law_behind", .fn 7), ("_law_depth", .fn 8), ("repr", .blt), ("deep_branches", .fn 32), ("_law_is_joined", .fn 11), ("_law_widest", .fn 10)]
def tGlobs2 : List (Str × GV) := [("_law_depths", .fn 9), ("_law_length_right", .fn 12), ("isinstance", .blt), ("int", .blt), ("bool", .blt), ("is_integer", .fn 14), ("enumerate", .blt), ("is_track", .fn 15), ("track_faults", .fn 16), ("hops_from", .fn 17), ("stations_behind", .fn 27), ("depth_of", .fn 28)]
def tGlobs3 : List (Str × GV) := [("depths_around", .fn 29), ("check_length", .fn 26), ("deep_names", .fn 31), ("joints", .fn 33), ("law", .fn 0)]
def tAttrs0 : List ((Nat × Str) × AK) := [((0, "links"), .fld 0), ((0, "gaps"), .fld 1), ((0, "hops"), .fld 2), ((0, "MOST_STATIONS"), .con (.int 100)), ((0, "size"), .prop 25)]
def tMeths0 : List ((Nat × Str) × MK) := [((0, "of"), .cls 19), ((0, "line"), .cls 20), ((0, "star"), .cls 21), ((0, "check_count"), .stat 22), ((0, "has_station"), .inst 23), ((0, "check_station"), .inst 24)]
def T : Tab := {
  defs := tDefs0 ++ tDefs1 ++ tDefs2,
  cls := [("Railway", ["links", "gaps", "hops"])],
  globs := tGlobs0 ++ tGlobs1 ++ tGlobs2 ++ tGlobs3,
  cons := [],
  attrs := tAttrs0,
  meths := tMeths0,
  inits := [(0, 18)] }
def nm0 : List Str := ["_wall", "RailError", "InvalidTracks", "InvalidStation", "InvalidLength", "InvalidCount", "InvalidText", "RAILWAY_WORD", "TRACK_WORD", "MOST_SIZE", "MOST_DIGITS", "DIGITS", "integer_of", "rows_of", "words_at", "check_word", "integer_at", "check_end", "check_rows", "tracks_in_rows", "tracks_in", "is_integer", "is_track", "track_faults", "hops_from", "Railway", "check_length", "stations_behind", "depth_of", "depths_around"]
def nm1 : List Str := ["diameter", "deep_names", "deep_branches", "joints", "trunk", "pivots", "_law_begin", "_law_mixed", "_law_next", "_law_tracks", "_law_around", "_law_paths", "_law_behind", "_law_depth", "_law_depths", "_law_widest", "_law_is_joined", "_law_length_right", "_law_right"]
def nms : List Str := nm0 ++ nm1
end Tt
set_option Elab.async false
set_option linter.all false
set_option maxRecDepth 100000
set_option maxHeartbeats 0
namespace Tt
open PySem PySem.Spec PyProof.Rows L2 Mi
theorem defs_ok : T.defsB 60 = true := by kernel_rfl
abbrev R : PySem.W.OpenRow := PySem.W.OpenLaw.row PySem.Challenge.rw_treetrain_k13_whole_trunks_and_pivots
abbrev hk : PySem.W.Hook := hookM 5 T
def ob (s : PySem.W.SharedT) := obsMG 5 T (HandSHeadRun.getT s)
theorem ob_eq (s : PySem.W.SharedT) : ob s = hk.obs s.abs := obsMG_eq (HandSHeadRun.getT_eq s)
theorem run (w : World) : HandSHeadRun.RunEq R (PySem.W.view R.prog [55]) hk ob 20000 nms w := by
  intro os
  kernel_rfl
end Tt
namespace Tt
open PySem PySem.W PySem.Calls PyProof.Rows Mi
theorem holds (hlaw : ∀ ns : List Int, ns.length ≤ 63 → ∃ S', callM T.prog (Mi.run T.prog 40) 0 [.list (ns.map .int)] [] [] [] = .ok (.bool true) S') : PySem.Challenge.rw_treetrain_k13_whole_trunks_and_pivots.Holds := by
  w_on; o_law
  refine HandSHeadRun.head_any (r := OpenLaw.row PySem.Challenge.rw_treetrain_k13_whole_trunks_and_pivots) (q := view (OpenLaw.row PySem.Challenge.rw_treetrain_k13_whole_trunks_and_pivots).prog [55]) (H := hk) (ob := ob) (M := 20000) (loose := nms) (d := HandSHeadRun.topDef (OpenLaw.row PySem.Challenge.rw_treetrain_k13_whole_trunks_and_pivots).prog 55) (kwd := []) ob_eq
    (by kernel_rfl) (fun s => by kernel_rfl) run (by kernel_rfl) (by kernel_rfl) (by kernel_rfl) (by rfl) (by first | assumption | decide +kernel) (by decide +kernel) ⟨rfl, rfl, rfl, rfl, rfl, by decide +kernel⟩ ?hw ?hc
  case hw => w_witness2
  case hc => exact law_of (T := T) (k := 60) (n := 40) (lf := 0) (l := PySem.Challenge.rw_treetrain_k13_whole_trunks_and_pivots) (m := 63) (x := "law") rfl (by decide) (by kernel_rfl) (by decide) (by kernel_rfl) (by kernel_rfl) defs_ok (by kernel_rfl) (by kernel_rfl) hlaw
end Tt
set_option Elab.async false
set_option linter.all false
namespace Mi
open PySem L2
/-- a result comes with Q, an exception with E -/
def Ok {α : Type} (r : Res α) (Q : α → Store → Prop) (E : D → Store → Prop) : Prop := match r with
  | .ok a S => Q a S
  | .exc e S => E e S
  | .bad => False
def OkX (r : XR) (Q : Fl → Env → Store → Prop) (E : D → Env → Store → Prop) : Prop := match r with
  | .fin f η S => Q f η S
  | .exc e η S => E e η S
  | .bad => False
theorem Ok.imp {α : Type} {r : Res α} {Q Q' : α → Store → Prop} {E E' : D → Store → Prop} (h : Ok r Q E) (q : ∀ a S, Q a S → Q' a S) (e : ∀ d S, E d S → E' d S) : Ok r Q' E' := by
  cases r with
  | ok a S => exact q _ _ h
  | exc d S => exact e _ _ h
  | bad => exact h
theorem OkX.imp {r : XR} {Q Q' : Fl → Env → Store → Prop} {E E' : D → Env → Store → Prop} (h : OkX r Q E) (q : ∀ f η S, Q f η S → Q' f η S) (e : ∀ d η S, E d η S → E' d η S) : OkX r Q' E' := by
  cases r with
  | fin f η S => exact q _ _ _ h
  | exc d η S => exact e _ _ _ h
  | bad => exact h
/-- an exception never comes -/
abbrev nx : D → Store → Prop := fun _ _ => False
abbrev nX : D → Env → Store → Prop := fun _ _ _ => False
theorem Ok.mono {α : Type} {r : Res α} {Q Q' : α → Store → Prop} {E' : D → Store → Prop} (h : Ok r Q nx) (q : ∀ a S, Q a S → Q' a S) : Ok r Q' E' := h.imp q fun _ _ z => z.elim
theorem Ok.get {α : Type} {r : Res α} {Q : α → Store → Prop} (h : Ok r Q nx) : ∃ a S, r = .ok a S ∧ Q a S := by
  cases r with
  | ok a S => exact ⟨a, S, rfl, h⟩
  | exc d S => exact h.elim
  | bad => exact h.elim
section
variable {α β : Type} {Q : α → Store → Prop} {QD : D → Store → Prop} {QL : List D → Store → Prop} {QB : Bool → Store → Prop} {QU : Unit → Store → Prop} {QN : Nat → Store → Prop} {E : D → Store → Prop} {S : Store} {P : Prog} {Φ : Call} {η : Env}
theorem ok_bind {m : M β} {f : β → M α} : Ok ((m >>= f) S) Q E = Ok (m S) (fun a S' => Ok (f a S') Q E) E := by
  show Ok (match m S with | .ok a S' => f a S' | .exc e S' => .exc e S' | .bad => .bad) Q E = _
  cases m S <;> rfl
theorem ok_pure {a : α} : Ok ((pure a : M α) S) Q E = Q a S := rfl
theorem ok_ok {a : α} : Ok (.ok a S) Q E = Q a S := rfl
theorem ok_bad : Ok ((bad : M α) S) Q E = False := rfl
theorem ok_opt {o : Option α} : Ok (opt o S) Q E = ∃ a, o = some a ∧ Q a S := by
  cases o with
  | none => exact propext ⟨fun h => h.elim, fun ⟨_, h, _⟩ => nomatch h⟩
  | some a => exact propext ⟨fun h => ⟨a, rfl, h⟩, fun ⟨_, h, q⟩ => by cases h; exact q⟩
theorem ok_optS {f : Store → Option α} : Ok (optS f S) Q E = ∃ a, f S = some a ∧ Q a S := ok_opt
theorem ok_pur {f : Store → Option D} : Ok (pur f S) QD E = ∃ a, f S = some a ∧ QD a S := by
  unfold pur
  cases f S with
  | none => exact propext ⟨fun h => h.elim, fun ⟨_, h, _⟩ => nomatch h⟩
  | some a => exact propext ⟨fun h => ⟨a, rfl, h⟩, fun ⟨_, h, q⟩ => by cases h; exact q⟩
theorem ok_eff {f : Store → Option (D × Store)} : Ok (eff f S) QD E = ∃ a S', f S = some (a, S') ∧ QD a S' := by
  unfold eff
  cases f S with
  | none => exact propext ⟨fun h => h.elim, fun ⟨_, _, h, _⟩ => nomatch h⟩
  | some a => exact propext ⟨fun h => ⟨a.1, a.2, rfl, h⟩, fun ⟨_, _, h, q⟩ => by cases h; exact q⟩
theorem ok_grd {b : Bool} : Ok (grd b S) QU E = (b = true ∧ QU () S) := by
  cases b with
  | false => exact propext ⟨fun h => h.elim, fun h => nomatch h.1⟩
  | true => exact propext ⟨fun h => ⟨rfl, h⟩, fun h => h.2⟩
theorem ok_grdS {f : Store → Bool} : Ok (grdS f S) QU E = (f S = true ∧ QU () S) := ok_grd (b := f S)
theorem ok_truth {d : D} : Ok (truth d S) QB E = ∃ b, d = .bool b ∧ QB b S := by
  cases d with
  | bool b => exact propext ⟨fun h => ⟨b, rfl, h⟩, fun ⟨_, h, q⟩ => by cases h; exact q⟩
  | _ => exact propext ⟨fun h => h.elim, fun ⟨_, h, _⟩ => nomatch h⟩
theorem ok_alloc {c : Cell} : Ok (alloc c S) QN E = QN S.length (S ++ [c]) := rfl
theorem ok_ite {b : Bool} {m m' : M α} : Ok ((if b = true then m else m') S) Q E = if b = true then Ok (m S) Q E else Ok (m' S) Q E := by cases b <;> rfl
theorem ok_calm {m : M α} : Ok (calm m S) Q E = Ok (m S) Q nx := by
  unfold calm
  cases h : m S <;> simp only [h] <;> rfl
theorem ok_fill {n : Nat} {kvs : List (Key × D)} : Ok (fill n kvs S) QU E = (S[n]? = some (.dK []) ∧ QU () (S.set n (.dK kvs))) := by
  unfold fill
  cases h : S[n]? with
  | none => exact propext ⟨fun h => h.elim, fun h => nomatch h.1⟩
  | some c =>
    cases c with
    | dK l =>
      cases l with
      | nil => exact propext ⟨fun h => ⟨rfl, h⟩, fun h => h.2⟩
      | cons _ _ => exact propext ⟨fun h => h.elim, fun h => by cases h.1⟩
    | _ => exact propext ⟨fun h => h.elim, fun h => by cases h.1⟩
theorem ok_push {n : Nat} {y : D} : Ok (push n y S) QU E = ∃ acc, S[n]? = some (.list acc) ∧ acc.length < line ∧ QU () (S.set n (.list (acc ++ [y]))) := by
  unfold push
  cases h : S[n]? with
  | none => exact propext ⟨fun h => h.elim, fun ⟨_, h, _⟩ => nomatch h⟩
  | some c =>
    cases c with
    | list l =>
      by_cases hl : l.length < line
      · simp only [hl, if_true]; exact propext ⟨fun h => ⟨l, rfl, hl, h⟩, fun ⟨_, h, _, q⟩ => by cases h; exact q⟩
      · simp only [hl, if_false]; exact propext ⟨fun h => h.elim, fun ⟨_, h, q, _⟩ => by cases h; exact hl q⟩
    | _ => exact propext ⟨fun h => h.elim, fun ⟨_, h, _⟩ => by cases h⟩
theorem ok_v {i : Nat} : Ok (ev P Φ (.v i) η S) QD E = ∃ d, η[i]? = some (some d) ∧ QD d S := by
  unfold ev
  cases h : η[i]? with
  | none => exact propext ⟨fun h => h.elim, fun ⟨_, h, _⟩ => nomatch h⟩
  | some o =>
    cases o with
    | none => exact propext ⟨fun h => h.elim, fun ⟨_, h, _⟩ => by cases h⟩
    | some d => exact propext ⟨fun h => ⟨d, rfl, h⟩, fun ⟨_, h, q⟩ => by cases h; exact q⟩
theorem ok_c {d : D} : Ok (ev P Φ (.c d) η S) QD E = QD d S := by unfold ev; rfl
theorem ok_g {n : Nat} : Ok (ev P Φ (.g n) η S) QD E = ∃ d, P.con n = some d ∧ QD d S := by unfold ev; exact ok_opt
theorem ok_tup {es : List Mi.E} : Ok (ev P Φ (.tup es) η S) QD E = Ok (evs P Φ es η S) (fun vs S' => vs.length ≤ line ∧ QD (.tup vs) S') E := by
  unfold ev; simp only [ok_bind, ok_grd, ok_pure, decide_eq_true_eq]
theorem ok_list {es : List Mi.E} : Ok (ev P Φ (.list es) η S) QD E = Ok (evs P Φ es η S) (fun vs S' => vs.length ≤ line ∧ QD (.list vs) S') E := by
  unfold ev; simp only [ok_bind, ok_grd, ok_pure, decide_eq_true_eq]
theorem ok_mlist {es : List Mi.E} : Ok (ev P Φ (.mlist es) η S) QD E = Ok (evs P Φ es η S) (fun vs S' => vs.length ≤ line ∧ QD (.ref S'.length) (S' ++ [.list vs])) E := by
  unfold ev; simp only [ok_bind, ok_grd, ok_pure, ok_alloc, decide_eq_true_eq]
theorem ok_mdict {es : List Mi.E} : Ok (ev P Φ (.mdict es) η S) QD E = Ok (evs P Φ es η (S ++ [.dK []])) (fun vs S' => ∃ kvs, pairsOf vs = some kvs ∧ S'[S.length]? = some (.dK []) ∧ QD (.ref S.length) (S'.set S.length (.dK kvs))) E := by
  unfold ev; simp only [ok_bind, ok_grd, ok_pure, ok_alloc, ok_opt, ok_fill]
theorem ok_edict : Ok (ev P Φ .edict η S) QD E = QD (.dict [] []) S := by unfold ev; rfl
theorem ok_mdictT : Ok (ev P Φ .mdictT η S) QD E = QD (.ref S.length) (S ++ [.dT []]) := by
  unfold ev; simp only [ok_bind, ok_pure, ok_alloc]
theorem ok_bin {o : BOp} {a b : Mi.E} : Ok (ev P Φ (.bin o a b) η S) QD E = Ok (ev P Φ a η S) (fun x S1 => Ok (ev P Φ b η S1) (fun y S2 => ∃ d, binop o S2 x y = some d ∧ QD d S2) E) E := by
  conv => lhs; unfold ev
  simp only [ok_bind, ok_pur]
theorem ok_mulm {a b : Mi.E} : Ok (ev P Φ (.mulm a b) η S) QD E = Ok (ev P Φ a η S) (fun x S1 => Ok (ev P Φ b η S1) (fun y S2 => ∃ xs, mulL S2 x y = some xs ∧ QD (.ref S2.length) (S2 ++ [.list xs])) E) E := by
  conv => lhs; unfold ev
  simp only [ok_bind, ok_optS, ok_alloc, ok_pure]
theorem ok_addm {a b : Mi.E} : Ok (ev P Φ (.addm a b) η S) QD E = Ok (ev P Φ a η S) (fun x S1 => Ok (ev P Φ b η S1) (fun y S2 => ∃ xs, addL S2 x y = some xs ∧ QD (.ref S2.length) (S2 ++ [.list xs])) E) E := by
  conv => lhs; unfold ev
  simp only [ok_bind, ok_optS, ok_alloc, ok_pure]
theorem ok_rngm {a : Mi.E} : Ok (ev P Φ (.rngm a) η S) QD E = Ok (ev P Φ a η S) (fun x S1 => ∃ n, rngN x = some n ∧ QD (.ref S1.length) (S1 ++ [.list (rangeD 0 n)])) E := by
  conv => lhs; unfold ev
  simp only [ok_bind, ok_opt, ok_alloc, ok_pure]
theorem ok_neg {a : Mi.E} : Ok (ev P Φ (.neg a) η S) QD E = Ok (ev P Φ a η S) (fun x S1 => ∃ i, x = .int i ∧ QD (.int (-i)) S1) E := by
  conv => lhs; unfold ev
  simp only [ok_bind]
  congr 1
  funext x S1
  cases x with
  | int i => exact propext ⟨fun h => ⟨i, rfl, h⟩, fun ⟨_, h, q⟩ => by cases h; exact q⟩
  | _ => exact propext ⟨fun h => h.elim, fun ⟨_, h, _⟩ => nomatch h⟩
theorem ok_cmp {o : COp} {a b : Mi.E} : Ok (ev P Φ (.cmp o a b) η S) QD E = Ok (ev P Φ a η S) (fun x S1 => Ok (ev P Φ b η S1) (fun y S2 => ∃ d, cmpop o S2 x y = some d ∧ QD d S2) E) E := by
  conv => lhs; unfold ev
  simp only [ok_bind, ok_pur]
theorem ok_eqE {a : Mi.E} : Ok (ev P Φ (.eqE a) η S) QD E = Ok (ev P Φ a η S) (fun x S1 => ∃ d, emptyT S1 x (.tup []) = some d ∧ QD d S1) E := by
  conv => lhs; unfold ev
  simp only [ok_bind, ok_pur]
theorem ok_cmp2 {o o2 : COp} {a b c : Mi.E} : Ok (ev P Φ (.cmp2 o o2 a b c) η S) QD E = Ok (ev P Φ a η S) (fun x S1 => Ok (ev P Φ b η S1) (fun y S2 => ∃ d, cmpop o S2 x y = some d ∧ ∃ t, d = .bool t ∧ if t = true then Ok (ev P Φ c η S2) (fun z S3 => ∃ d, cmpop o2 S3 y z = some d ∧ QD d S3) E else QD (.bool false) S2) E) E := by
  conv => lhs; unfold ev
  simp only [ok_bind, ok_pur, ok_truth, ok_ite, ok_pure]
theorem ok_isN {pos : Bool} {a : Mi.E} : Ok (ev P Φ (.isN pos a) η S) QD E = Ok (ev P Φ a η S) (fun x S1 => QD (.bool (match x with | .none => pos | _ => !pos)) S1) E := by
  conv => lhs; unfold ev
  simp only [ok_bind]
  congr 1
  funext x S1
  cases x <;> rfl
theorem ok_isB {pos b : Bool} {a : Mi.E} : Ok (ev P Φ (.isB pos b a) η S) QD E = Ok (ev P Φ a η S) (fun x S1 => ∃ c, x = .bool c ∧ QD (.bool ((b == c) == pos)) S1) E := by
  conv => lhs; unfold ev
  simp only [ok_bind]
  congr 1
  funext x S1
  cases x with
  | bool i => exact propext ⟨fun h => ⟨i, rfl, h⟩, fun ⟨_, h, q⟩ => by cases h; exact q⟩
  | _ => exact propext ⟨fun h => h.elim, fun ⟨_, h, _⟩ => nomatch h⟩
theorem ok_not {a : Mi.E} : Ok (ev P Φ (.not_ a) η S) QD E = Ok (ev P Φ a η S) (fun x S1 => ∃ t, x = .bool t ∧ QD (.bool (!t)) S1) E := by
  conv => lhs; unfold ev
  simp only [ok_bind, ok_truth, ok_pure]
theorem ok_eite {c a b : Mi.E} : Ok (ev P Φ (.ite c a b) η S) QD E = Ok (ev P Φ c η S) (fun x S1 => ∃ t, x = .bool t ∧ if t = true then Ok (ev P Φ a η S1) QD E else Ok (ev P Φ b η S1) QD E) E := by
  conv => lhs; unfold ev
  simp only [ok_bind, ok_truth, ok_ite]
theorem ok_ix {a b : Mi.E} : Ok (ev P Φ (.ix a b) η S) QD E = Ok (ev P Φ a η S) (fun x S1 => Ok (ev P Φ b η S1) (fun y S2 => ∃ d, ixop S2 x y = some d ∧ QD d S2) E) E := by
  conv => lhs; unfold ev
  simp only [ok_bind, ok_pur]
theorem ok_sl {a lo hi : Mi.E} : Ok (ev P Φ (.sl a lo hi) η S) QD E = Ok (ev P Φ a η S) (fun x S1 => Ok (ev P Φ lo η S1) (fun l S2 => ∃ l', partE lo l = some l' ∧ Ok (ev P Φ hi η S2) (fun h S3 => ∃ h', partE hi h = some h' ∧ ∃ d, slop S3 x l' h' = some d ∧ QD d S3) E) E) E := by
  conv => lhs; unfold ev
  simp only [ok_bind, ok_pur, ok_opt]
theorem ok_slm {a lo hi : Mi.E} : Ok (ev P Φ (.slm a lo hi) η S) QD E = Ok (ev P Φ a η S) (fun x S1 => Ok (ev P Φ lo η S1) (fun l S2 => ∃ l', partE lo l = some l' ∧ Ok (ev P Φ hi η S2) (fun h S3 => ∃ h', partE hi h = some h' ∧ ∃ xs, slL S3 x l' h' = some xs ∧ QD (.ref S3.length) (S3 ++ [.list xs])) E) E) E := by
  conv => lhs; unfold ev
  simp only [ok_bind, ok_pur, ok_opt, ok_optS, ok_alloc, ok_pure]
theorem ok_vals {a : Mi.E} : Ok (ev P Φ (.vals a) η S) QD E = Ok (ev P Φ a η S) (fun x S1 => ∃ d S2, killD x S1 = some (d, S2) ∧ QD d S2) E := by
  conv => lhs; unfold ev
  simp only [ok_bind, ok_eff]
theorem ok_rev {a : Mi.E} : Ok (ev P Φ (.rev a) η S) QD E = Ok (ev P Φ a η S) (fun x S1 => ∃ d, revop S1 x = some d ∧ QD d S1) E := by
  conv => lhs; unfold ev
  simp only [ok_bind, ok_pur]
theorem ok_attr {a : Mi.E} {f : Str} : Ok (ev P Φ (.attr a f) η S) QD E = Ok (ev P Φ a η S) (fun x S1 => Ok (getA P Φ x f S1) QD E) E := by
  conv => lhs; unfold ev
  simp only [ok_bind]
theorem ok_cattr {c : Nat} {f : Str} : Ok (ev P Φ (.cattr c f) η S) QD E = ∃ d, P.attr c f = some (.con d) ∧ QD d S := by
  unfold ev
  cases h : P.attr c f with
  | none => exact propext ⟨fun h => h.elim, fun ⟨_, h, _⟩ => nomatch h⟩
  | some k =>
    cases k with
    | con d => exact propext ⟨fun h => ⟨d, rfl, h⟩, fun ⟨_, h, q⟩ => by cases h; exact q⟩
    | _ => exact propext ⟨fun h => h.elim, fun ⟨_, h, _⟩ => nomatch h⟩
theorem ok_call {f : Nat} {es : List Mi.E} {ks : List Str} {kes : List Mi.E} : Ok (ev P Φ (.call f es ks kes) η S) QD E = Ok (evs P Φ es η S) (fun vs S1 => Ok (evs P Φ kes η S1) (fun zs S2 => Ok (callM P Φ f vs ks zs S2) QD E) E) E := by
  unfold ev; simp only [ok_bind]
theorem ok_bc {b : BFn} {es : List Mi.E} : Ok (ev P Φ (.bc b es) η S) QD E = Ok (evs P Φ es η S) (fun vs S1 => ∃ d, bfn b S1 vs = some d ∧ QD d S1) E := by
  unfold ev; simp only [ok_bind, ok_pur]
theorem ok_isi {a : Mi.E} {ts : List Ty} : Ok (ev P Φ (.isi a ts) η S) QD E = Ok (ev P Φ a η S) (fun x S1 => ∃ b, isTys P S1 x ts = some b ∧ QD (.bool b) S1) E := by
  conv => lhs; unfold ev
  simp only [ok_bind, ok_pur]
  congr 1
  funext x S1
  cases isTys P S1 x ts with
  | none =>
    refine propext (Iff.intro (fun ⟨_, h, _⟩ => ?_) fun ⟨_, h, _⟩ => ?_) <;> cases h
  | some b =>
    refine propext (Iff.intro (fun ⟨_, h, q⟩ => ?_) fun ⟨_, h, q⟩ => ?_) <;> cases h
    · exact ⟨b, rfl, q⟩
    · exact ⟨_, rfl, q⟩
theorem ok_meth {a : Mi.E} {m : Str} {es : List Mi.E} {ks : List Str} {kes : List Mi.E} : Ok (ev P Φ (.meth a m es ks kes) η S) QD E = Ok (ev P Φ a η S) (fun x S1 => ∃ c, clsNo S1 x = some c ∧ ∃ f, instM P c m = some f ∧ Ok (evs P Φ es η S1) (fun vs S1 => Ok (evs P Φ kes η S1) (fun zs S2 => Ok (callM P Φ f (x :: vs) ks zs S2) QD E) E) E) E := by
  conv => lhs; unfold ev
  simp only [ok_bind, ok_optS, ok_opt]
theorem ok_bm {m : BM} {a : Mi.E} {es : List Mi.E} : Ok (ev P Φ (.bm m a es) η S) QD E = Ok (ev P Φ a η S) (fun x S1 => bmTy m S1 x = true ∧ Ok (evs P Φ es η S1) (fun vs S2 => ∃ d S3, bmeth m x S2 vs = some (d, S3) ∧ QD d S3) E) E := by
  conv => lhs; unfold ev
  simp only [ok_bind, ok_grdS, ok_eff]
theorem ok_cm {c : Nat} {m : Str} {es : List Mi.E} {ks : List Str} {kes : List Mi.E} : Ok (ev P Φ (.cm c m es ks kes) η S) QD E = ∃ f, P.meth c m = some (.cls f) ∧ Ok (evs P Φ es η S) (fun vs S1 => Ok (evs P Φ kes η S1) (fun zs S2 => Ok (callM P Φ f (.cls c :: vs) ks zs S2) QD E) E) E := by
  unfold ev
  cases h : P.meth c m with
  | none => exact propext ⟨fun h => h.elim, fun ⟨_, h, _⟩ => nomatch h⟩
  | some k =>
    cases k with
    | cls f =>
      simp only [ok_bind]
      exact propext ⟨fun h => ⟨f, rfl, h⟩, fun ⟨_, h, q⟩ => by cases h; exact q⟩
    | _ => exact propext ⟨fun h => h.elim, fun ⟨_, h, _⟩ => nomatch h⟩
theorem ok_mk {fz : Bool} {c : Nat} {es : List Mi.E} {ks : List Str} {kes : List Mi.E} : Ok (ev P Φ (.mk fz c es ks kes) η S) QD E = Ok (evs P Φ es η S) (fun vs S1 => Ok (evs P Φ kes η S1) (fun zs S2 => Ok (mkM P Φ fz c vs ks zs S2) QD E) E) E := by
  unfold ev; simp only [ok_bind]
theorem ok_mkv {fz : Bool} {a : Mi.E} {es : List Mi.E} : Ok (ev P Φ (.mkv fz a es) η S) QD E = Ok (ev P Φ a η S) (fun x S1 => ∃ c, ((asCls x).bind fun c => (P.init c).map fun _ => c) = some c ∧ Ok (evs P Φ es η S1) (fun vs S2 => Ok (mkM P Φ fz c vs [] [] S2) QD E) E) E := by
  conv => lhs; unfold ev
  simp only [ok_bind, ok_opt]
theorem ok_mkx {c : Nat} {es : List Mi.E} {ks : List Str} {kes : List Mi.E} : Ok (ev P Φ (.mkx c es ks kes) η S) QD E = ((P.exc c).isSome = true ∧ Ok (evs P Φ es η S) (fun vs S1 => Ok (evs P Φ kes η S1) (fun zs S2 => Ok (mkxM P c vs ks zs S2) QD E) E) E) := by
  conv => lhs; unfold ev
  simp only [ok_bind, ok_grd]
theorem ok_cs {c : Nat} {m : Str} {es : List Mi.E} {ks : List Str} {kes : List Mi.E} : Ok (ev P Φ (.cs c m es ks kes) η S) QD E = ∃ f, statM P c m = some f ∧ Ok (evs P Φ es η S) (fun vs S1 => Ok (evs P Φ kes η S1) (fun zs S2 => Ok (callM P Φ f vs ks zs S2) QD E) E) E := by
  conv => lhs; unfold ev
  simp only [ok_bind, ok_opt]
theorem ok_cmv {a : Mi.E} {m : Str} {es : List Mi.E} {ks : List Str} {kes : List Mi.E} : Ok (ev P Φ (.cmv a m es ks kes) η S) QD E = Ok (ev P Φ a η S) (fun x S1 => ∃ c, asCls x = some c ∧ ∃ f, clsM P c m = some f ∧ Ok (evs P Φ es η S1) (fun vs S1 => Ok (evs P Φ kes η S1) (fun zs S2 => Ok (callM P Φ f (.cls c :: vs) ks zs S2) QD E) E) E) E := by
  conv => lhs; unfold ev
  simp only [ok_bind, ok_opt]
theorem ok_fz {a : Mi.E} : Ok (ev P Φ (.fz a) η S) QD E = Ok (ev P Φ a η S) (fun x S1 => ∃ d S2, freeze x S1 = some (d, S2) ∧ QD d S2) E := by
  conv => lhs; unfold ev
  simp only [ok_bind, ok_eff]
/-- a comprehension's turn -/
noncomputable def lcT (P : Prog) (Φ : Call) (own : List Nat) (tg : Tg) (cond : List Mi.E) (elt : Mi.E) (η : Env) : D → M (Option D) := fun x => do
  let η' ← opt (asg tg x (wipeD η own))
  let t ← evTests P Φ cond η'
  if t then do
    let y ← ev P Φ elt η'
    pure (some y)
  else pure none
theorem ok_lc {mu : Bool} {own : List Nat} {k : ItK} {ia : List Mi.E} {tg : Tg} {cond : List Mi.E} {elt : Mi.E} : Ok (ev P Φ (.lc mu own k ia tg cond elt) η S) QD E = Ok (evs P Φ ia η S) (fun vs S1 => ∃ xs, items k vs = some xs ∧ Ok (lcLoop (lcT P Φ own tg cond elt η) S1.length xs (S1 ++ [.list []])) (fun _ S2 => Ok (lcEnd mu S1.length S2) QD E) E) E := by
  unfold ev
  simp only [ok_bind, ok_opt, ok_alloc]
  rfl
theorem ok_lcT {own : List Nat} {tg : Tg} {cond : List Mi.E} {elt : Mi.E} {x : D} {QO : Option D → Store → Prop} : Ok (lcT P Φ own tg cond elt η x S) QO E = ∃ η', asg tg x (wipeD η own) = some η' ∧ Ok (evTests P Φ cond η' S) (fun t S1 => if t = true then Ok (ev P Φ elt η' S1) (fun y S2 => QO (some y) S2) E else QO none S1) E := by
  unfold lcT
  simp only [ok_bind, ok_opt, ok_ite, ok_pure]
/-- the outer turn of a comprehension with two fors -/
noncomputable def lc2T (P : Prog) (Φ : Call) (own : List Nat) (tg : Tg) (cond : List Mi.E) (k2 : ItK) (ia2 : List Mi.E) (own2 : List Nat) (tg2 : Tg) (cond2 : List Mi.E) (elt : Mi.E) (η : Env) (n : Nat) : D → M Unit := fun x => do
  let η1 ← opt (asg tg x (wipeD η own))
  let t ← evTests P Φ cond η1
  if t then do
    let ws ← evs P Φ ia2 η1
    let us ← opt (items k2 ws)
    lcLoop (lcT P Φ own2 tg2 cond2 elt η1) n us
  else pure ()
theorem ok_lc2 {own : List Nat} {k : ItK} {ia : List Mi.E} {tg : Tg} {cond : List Mi.E} {k2 : ItK} {ia2 : List Mi.E} {own2 : List Nat} {tg2 : Tg} {cond2 : List Mi.E} {elt : Mi.E} : Ok (ev P Φ (.lc2 own k ia tg cond k2 ia2 own2 tg2 cond2 elt) η S) QD E = Ok (evs P Φ ia η S) (fun vs S1 => ∃ xs, items k vs = some xs ∧ Ok (lc2Loop (lc2T P Φ own tg cond k2 ia2 own2 tg2 cond2 elt η S1.length) xs (S1 ++ [.list []])) (fun _ S2 => Ok (lcEnd false S1.length S2) QD E) E) E := by
  unfold ev
  simp only [ok_bind, ok_opt, ok_alloc]
  rfl
theorem ok_lc2T {own : List Nat} {tg : Tg} {cond : List Mi.E} {k2 : ItK} {ia2 : List Mi.E} {own2 : List Nat} {tg2 : Tg} {cond2 : List Mi.E} {elt : Mi.E} {n : Nat} {x : D} : Ok (lc2T P Φ own tg cond k2 ia2 own2 tg2 cond2 elt η n x S) QU E = ∃ η1, asg tg x (wipeD η own) = some η1 ∧ Ok (evTests P Φ cond η1 S) (fun t S1 => if t = true then Ok (evs P Φ ia2 η1 S1) (fun ws S2 => ∃ us, items k2 ws = some us ∧ Ok (lcLoop (lcT P Φ own2 tg2 cond2 elt η1) n us S2) QU E) E else QU () S1) E := by
  unfold lc2T
  simp only [ok_bind, ok_opt, ok_ite, ok_pure]
theorem ok_evs0 : Ok (evs P Φ [] η S) QL E = QL [] S := by unfold evs; rfl
theorem ok_evs1 {e : Mi.E} {es : List Mi.E} (h : ∀ x, e ≠ .st x) : Ok (evs P Φ (e :: es) η S) QL E = Ok (ev P Φ e η S) (fun x S1 => Ok (evs P Φ es η S1) (fun ys S2 => QL (x :: ys) S2) E) E := by
  cases e with
  | st a => exact absurd rfl (h a)
  | _ =>
    conv => lhs; unfold evs
    simp only [ok_bind, ok_pure]
theorem ok_evsS {e : Mi.E} {es : List Mi.E} : Ok (evs P Φ (.st e :: es) η S) QL E = Ok (ev P Φ e η S) (fun x S1 => ∃ xs, seqOf S1 x = some xs ∧ Ok (evs P Φ es η S1) (fun ys S2 => QL (xs ++ ys) S2) E) E := by
  conv => lhs; unfold evs
  simp only [ok_bind, ok_optS, ok_pure]
theorem ok_and {es : List Mi.E} : Ok (ev P Φ (.and_ es) η S) QD E = Ok (evAnd P Φ es η S) QD E := by unfold ev; rfl
theorem ok_or {es : List Mi.E} : Ok (ev P Φ (.or_ es) η S) QD E = Ok (evOr P Φ es η S) QD E := by unfold ev; rfl
theorem ok_and1 {e : Mi.E} : Ok (evAnd P Φ [e] η S) QD E = Ok (ev P Φ e η S) QD E := by unfold evAnd; rfl
theorem ok_and2 {e e2 : Mi.E} {es : List Mi.E} : Ok (evAnd P Φ (e :: e2 :: es) η S) QD E = Ok (ev P Φ e η S) (fun x S1 => ∃ t, x = .bool t ∧ if t = true then Ok (evAnd P Φ (e2 :: es) η S1) QD E else QD (.bool false) S1) E := by
  conv => lhs; unfold evAnd
  simp only [ok_bind, ok_truth, ok_ite, ok_pure]
theorem ok_or1 {e : Mi.E} : Ok (evOr P Φ [e] η S) QD E = Ok (ev P Φ e η S) QD E := by unfold evOr; rfl
theorem ok_or2 {e e2 : Mi.E} {es : List Mi.E} : Ok (evOr P Φ (e :: e2 :: es) η S) QD E = Ok (ev P Φ e η S) (fun x S1 => ∃ t, x = .bool t ∧ if t = true then QD (.bool true) S1 else Ok (evOr P Φ (e2 :: es) η S1) QD E) E := by
  conv => lhs; unfold evOr
  simp only [ok_bind, ok_truth, ok_ite, ok_pure]
theorem ok_t0 : Ok (evTests P Φ [] η S) QB E = QB true S := by unfold evTests; rfl
theorem ok_t1 {e : Mi.E} {es : List Mi.E} : Ok (evTests P Φ (e :: es) η S) QB E = Ok (ev P Φ e η S) (fun x S1 => ∃ t, x = .bool t ∧ if t = true then Ok (evTests P Φ es η S1) QB E else QB false S1) E := by
  conv => lhs; unfold evTests
  simp only [ok_bind, ok_truth, ok_ite, ok_pure]
end
section
variable {P : Prog} {Φ : Call} {η : Env} {S : Store} {Q : Fl → Env → Store → Prop} {E : D → Env → Store → Prop}
theorem ok_then {α : Type} {m : M α} {k : α → Store → XR} : OkX (thenX m η S k) Q E = Ok (m S) (fun a S' => OkX (k a S') Q E) (fun e S' => E e η S') := by
  unfold thenX
  cases m S <;> rfl
theorem ok_fin {f : Fl} : OkX (.fin f η S) Q E = Q f η S := rfl
theorem ok_sex {e : Mi.E} : OkX (ex P Φ (.ex e) η S) Q E = Ok (ev P Φ e η S) (fun _ S1 => Q .next η S1) (fun e S' => E e η S') := by
  unfold ex; simp only [ok_then, ok_fin]
theorem ok_ret {e : Mi.E} : OkX (ex P Φ (.ret e) η S) Q E = Ok (ev P Φ e η S) (fun d S1 => Q (.ret d) η S1) (fun e S' => E e η S') := by
  unfold ex; simp only [ok_then, ok_fin]
theorem ok_asg {o : Option Env} : OkX (match o with | some η1 => .fin .next η1 S | none => .bad) Q E = ∃ η1, o = some η1 ∧ Q .next η1 S := by
  cases o with
  | none => exact propext ⟨fun h => h.elim, fun ⟨_, h, _⟩ => nomatch h⟩
  | some a => exact propext ⟨fun h => ⟨a, rfl, h⟩, fun ⟨_, h, q⟩ => by cases h; exact q⟩
theorem ok_set {tg : Tg} {e : Mi.E} : OkX (ex P Φ (.set tg e) η S) Q E = Ok (ev P Φ e η S) (fun d S1 => ∃ η1, asg tg d η = some η1 ∧ Q .next η1 S1) (fun e S' => E e η S') := by
  unfold ex
  simp only [ok_then]
  congr 1
  funext d S1
  exact ok_asg
theorem ok_par {is : List Nat} {es : List Mi.E} : OkX (ex P Φ (.par is es) η S) Q E = Ok (evs P Φ es η S) (fun vs S1 => ∃ η1, asgs (is.map .n) vs η = some η1 ∧ Q .next η1 S1) (fun e S' => E e η S') := by
  unfold ex
  simp only [ok_then]
  congr 1
  funext d S1
  exact ok_asg
theorem ok_seti {a i e : Mi.E} : OkX (ex P Φ (.seti a i e) η S) Q E = Ok (ev P Φ e η S) (fun v S1 => Ok (ev P Φ a η S1) (fun x S2 => Ok (ev P Φ i η S2) (fun y S3 => ∃ d S4, setop x y v S3 = some (d, S4) ∧ Q .next η S4) (fun e S' => E e η S')) (fun e S' => E e η S')) (fun e S' => E e η S') := by
  unfold ex; simp only [ok_then, ok_eff, ok_fin]
theorem ok_seta {a e : Mi.E} {f : Str} : OkX (ex P Φ (.seta a f e) η S) Q E = Ok (ev P Φ e η S) (fun v S1 => Ok (ev P Φ a η S1) (fun x S2 => ∃ d S3, setA P x f v S2 = some (d, S3) ∧ Q .next η S3) (fun e S' => E e η S')) (fun e S' => E e η S') := by
  unfold ex; simp only [ok_then, ok_eff, ok_fin]
theorem okx_ite {b : Bool} {r r' : XR} : OkX (if b = true then r else r') Q E = if b = true then OkX r Q E else OkX r' Q E := by cases b <;> rfl
theorem ok_site {c : Mi.E} {a b : List St} : OkX (ex P Φ (.ite c a b) η S) Q E = Ok (ev P Φ c η S) (fun x S1 => ∃ t, x = .bool t ∧ if t = true then OkX (exs P Φ a η S1) Q E else OkX (exs P Φ b η S1) Q E) (fun e S' => E e η S') := by
  unfold ex; simp only [ok_then, ok_bind, ok_truth, okx_ite]
theorem ok_for {k : ItK} {ia : List Mi.E} {tg : Tg} {b : List St} : OkX (ex P Φ (.for_ k ia tg b) η S) Q E = Ok (evs P Φ ia η S) (fun vs S1 => ∃ xs, items k vs = some xs ∧ OkX (forX tg (fun η S => exs P Φ b η S) xs η S1) Q E) (fun e S' => E e η S') := by
  unfold ex
  simp only [ok_then]
  congr 1
  funext vs S1
  cases items k vs with
  | none => exact propext ⟨fun h => h.elim, fun ⟨_, h, _⟩ => nomatch h⟩
  | some a => exact propext ⟨fun h => ⟨a, rfl, h⟩, fun ⟨_, h, q⟩ => by cases h; exact q⟩
theorem ok_while {n : Nat} {c : Mi.E} {b : List St} : OkX (ex P Φ (.while_ n c b) η S) Q E = OkX (whileX (fun η => do let x ← ev P Φ c η; truth x) (fun η S => exs P Φ b η S) n η S) Q E := by unfold ex; rfl
theorem ok_raise {e : Mi.E} : OkX (ex P Φ (.raise e) η S) Q E = Ok (ev P Φ e η S) (fun d S1 => ∃ c fs, d = .exc c fs ∧ E (.exc c fs) η S1) (fun e S' => E e η S') := by
  unfold ex
  simp only [ok_then]
  congr 1
  funext d S1
  cases d with
  | exc c fs => exact propext ⟨fun h => ⟨c, fs, rfl, h⟩, fun ⟨_, _, h, q⟩ => by cases h; exact q⟩
  | _ => exact propext ⟨fun h => h.elim, fun ⟨_, _, h, _⟩ => nomatch h⟩
/-- what an exception meets at a try -/
def caught (P : Prog) (Φ : Call) (cs : List Nat) (as : Option Nat) (h : List St) (Q : Fl → Env → Store → Prop) (E : D → Env → Store → Prop) (e : D) (η : Env) (S : Store) : Prop := match e with
  | .exc c fs => (P.exc c).isSome = true ∧ if cs.any (fun k => P.sub c k) = true then (match as with
    | some i => i < η.length ∧ OkX (exs P Φ h (η.set i (some (.exc c fs))) S) (fun f η2 S2 => Q f (η2.set i none) S2) E
    | none => OkX (exs P Φ h η S) Q E) else E (.exc c fs) η S
  | e => E e η S
theorem ok_try {b : List St} {cs : List Nat} {as : Option Nat} {h : List St} : OkX (ex P Φ (.try_ b cs as h) η S) Q E = (cs.all P.xk = true ∧ OkX (exs P Φ b η S) Q (caught P Φ cs as h Q E)) := by
  conv => lhs; unfold ex
  cases hc : cs.all P.xk with
  | false => exact propext ⟨fun h => h.elim, fun h => nomatch h.1⟩
  | true =>
    refine propext (Iff.trans ?_ ⟨fun h => ⟨rfl, h⟩, fun h => h.2⟩)
    rw [if_pos rfl]
    cases hb : exs P Φ b η S with
    | bad => exact Iff.rfl
    | fin f η1 S1 => exact Iff.rfl
    | exc e η1 S1 =>
      cases e with
      | exc c fs =>
        show OkX (if (P.exc c).isSome = true then _ else .bad) Q E ↔ caught P Φ cs as h Q E (.exc c fs) η1 S1
        unfold caught
        by_cases hx : (P.exc c).isSome = true
        case neg =>
          rw [if_neg hx]
          exact ⟨fun h => h.elim, fun h => hx h.1⟩
        case pos =>
          refine Iff.trans ?_ ⟨fun h => ⟨hx, h⟩, fun h => h.2⟩
          rw [if_pos hx]
          cases ha : cs.any (fun k => P.sub c k) with
          | false => exact Iff.rfl
          | true =>
            rw [if_pos rfl, if_pos rfl]
            cases as with
            | none => exact Iff.rfl
            | some i =>
              by_cases hi : i < η1.length
              · simp only [if_pos hi]
                refine Iff.trans ?_ ⟨fun h => ⟨hi, h⟩, fun h => h.2⟩
                cases exs P Φ h (η1.set i (some (.exc c fs))) S1 <;> exact Iff.rfl
              · simp only [if_neg hi]
                exact ⟨fun h => h.elim, fun h => hi h.1⟩
      | _ => exact Iff.rfl
theorem ok_pass : OkX (ex P Φ .pass η S) Q E = Q .next η S := by unfold ex; rfl
theorem ok_brk : OkX (ex P Φ .brk η S) Q E = Q .brk η S := by unfold ex; rfl
theorem ok_cont : OkX (ex P Φ .cont η S) Q E = Q .cont η S := by unfold ex; rfl
theorem ok_exs0 : OkX (exs P Φ [] η S) Q E = Q .next η S := by unfold exs; rfl
/-- what follows a statement -/
def goOn (P : Prog) (Φ : Call) (ss : List St) (Q : Fl → Env → Store → Prop) (E : D → Env → Store → Prop) (f : Fl) (η : Env) (S : Store) : Prop := match f with
  | .next => OkX (exs P Φ ss η S) Q E
  | f => Q f η S
theorem ok_exs {s : St} {ss : List St} : OkX (exs P Φ (s :: ss) η S) Q E = OkX (ex P Φ s η S) (goOn P Φ ss Q E) E := by
  conv => lhs; unfold exs
  cases ex P Φ s η S with
  | fin f η1 S1 => cases f <;> rfl
  | exc e η1 S1 => rfl
  | bad => rfl
theorem go_next {ss : List St} : goOn P Φ ss Q E .next η S = OkX (exs P Φ ss η S) Q E := rfl
theorem go_ret {ss : List St} {d : D} : goOn P Φ ss Q E (.ret d) η S = Q (.ret d) η S := rfl
theorem go_brk {ss : List St} : goOn P Φ ss Q E .brk η S = Q .brk η S := rfl
theorem go_cont {ss : List St} : goOn P Φ ss Q E .cont η S = Q .cont η S := rfl
/-- a for with an invariant over what is left -/
theorem for_inv {tg : Tg} {b : Env → Store → XR} (I : List D → Env → Store → Prop) : ∀ {xs : List D} {η : Env} {S : Store}, I xs η S →
    (∀ x ys η S, I (x :: ys) η S → ∃ η1, asg tg x η = some η1 ∧ OkX (b η1 S) (fun f η2 S2 => match f with
      | .next => I ys η2 S2
      | .cont => I ys η2 S2
      | .brk => Q .next η2 S2
      | .ret d => Q (.ret d) η2 S2) E) → (∀ η S, I [] η S → Q .next η S) → OkX (forX tg b xs η S) Q E
  | [], η, S, h, _, e => e η S h
  | x :: xs, η, S, h, st, e => by
    unfold forX
    obtain ⟨η1, h1, h2⟩ := st x xs η S h
    rw [h1]
    dsimp only
    cases q : b η1 S with
    | bad => rw [q] at h2; exact h2.elim
    | exc d η2 S2 => rw [q] at h2; exact h2
    | fin f η2 S2 =>
      rw [q] at h2
      cases f with
      | next => exact for_inv I h2 st e
      | cont => exact for_inv I h2 st e
      | brk => exact h2
      | ret d => exact h2
/-- a while with an invariant and a number that falls -/
theorem while_inv {c : Env → M Bool} {b : Env → Store → XR} (I : Nat → Env → Store → Prop) : ∀ {n k : Nat} {η : Env} {S : Store}, k < n → I k η S →
    (∀ k η S, I k η S → Ok (c η S) (fun t S1 => if t = true then OkX (b η S1) (fun f η2 S2 => match f with
      | .next => ∃ j, j < k ∧ I j η2 S2
      | .cont => ∃ j, j < k ∧ I j η2 S2
      | .brk => Q .next η2 S2
      | .ret d => Q (.ret d) η2 S2) E else Q .next η S1) (fun e S1 => E e η S1)) → OkX (whileX c b n η S) Q E
  | 0, k, η, S, hk, h, st => absurd hk (Nat.not_lt_zero _)
  | n + 1, k, η, S, hk, h, st => by
    unfold whileX
    rw [ok_then]
    refine (st k η S h).imp (fun t S1 q => ?_) fun e S1 q => q
    cases t with
    | false => exact q
    | true =>
      simp only [if_true] at q ⊢
      cases z : b η S1 with
      | bad => rw [z] at q; exact q.elim
      | exc d η2 S2 => rw [z] at q; exact q
      | fin f η2 S2 =>
        rw [z] at q
        cases f with
        | next => obtain ⟨j, hj, q⟩ := q; exact while_inv I (by omega) q st
        | cont => obtain ⟨j, hj, q⟩ := q; exact while_inv I (by omega) q st
        | brk => exact q
        | ret d => exact q
/-- a call of a known function -/
theorem ok_fn {n f : Nat} {fn : Fn} {vs zs ds : List D} {ks : List Str} {QD : D → Store → Prop} {ED : D → Store → Prop} (h1 : P.fn f = some fn) (h2 : bindF fn vs ks zs = some ds)
    (h : OkX (exs P (run P n) fn.body (ds.map some ++ List.replicate (fn.n - ds.length) none) S) (fun f _ S' => match f with
      | .next => QD .none S'
      | .ret d => QD d S'
      | _ => False) (fun e _ S' => ED e S')) : Ok (callM P (run P (n + 1)) f vs ks zs S) QD ED := by
  have e : callM P (run P (n + 1)) f vs ks zs = runF P (run P n) fn ds := by
    unfold callM
    simp only [h1, h2, run_succ]
  rw [e]
  unfold runF
  cases z : exs P (run P n) fn.body (ds.map some ++ List.replicate (fn.n - ds.length) none) S with
  | bad => rw [z] at h; exact h.elim
  | exc d η2 S2 => rw [z] at h; exact h
  | fin f η2 S2 =>
    rw [z] at h
    cases f with
    | next => exact h
    | ret d => exact h
    | brk => exact h.elim
    | cont => exact h.elim
end
end Mi
set_option Elab.async false
set_option linter.all false
namespace Mi
open PySem L2
section
variable {S : Store} {i j k : Int} {xs ys : List D} {x y d : D} {n : Nat} {z u : Str}
theorem b_add : binop .add S (.int i) (.int j) = some (.int (i + j)) := rfl
theorem b_sub : binop .sub S (.int i) (.int j) = some (.int (i - j)) := rfl
theorem b_mul : binop .mul S (.int i) (.int j) = if bigMul i j then some (.int (i * j)) else none := rfl
theorem b_fdiv : binop .fdiv S (.int i) (.int j) = if 0 < j ∧ j < 1073741824 then some (.int (i / j)) else none := rfl
theorem b_mod : binop .mod S (.int i) (.int j) = if 0 < j then some (.int (i % j)) else none := rfl
theorem b_pow : binop .pow S (.int i) (.int j) = if 0 ≤ j ∧ j ≤ 1000000 ∧ i.natAbs < 2 ^ 64 then some (.int (i ^ j.toNat)) else none := rfl
theorem b_tup : binop .add S (.tup xs) (.tup ys) = if xs.length + ys.length ≤ line then some (.tup (xs ++ ys)) else none := rfl
theorem b_list : binop .add S (.list xs) (.list ys) = if xs.length + ys.length ≤ line then some (.list (xs ++ ys)) else none := rfl
theorem ite_some {α : Type} {c : Prop} {hc : Decidable c} {a b : α} : ((if c then some a else none) = some b) = (c ∧ a = b) := by
  by_cases h : c <;> simp [h]
theorem c_lt : cmpop .lt S (.int i) (.int j) = some (.bool (decide (i < j))) := rfl
theorem c_le : cmpop .le S (.int i) (.int j) = some (.bool (decide (i ≤ j))) := rfl
theorem c_gt : cmpop .gt S (.int i) (.int j) = some (.bool (decide (j < i))) := rfl
theorem c_ge : cmpop .ge S (.int i) (.int j) = some (.bool (decide (j ≤ i))) := rfl
theorem eq_of {p q : PyData} (h1 : pyS S x = some p) (h2 : pyS S y = some q) (h3 : SeqAt.shaped p = true) (h4 : SeqAt.shaped q = true) : eqOp S x y = some (PyData.eqv p q) := by
  unfold eqOp
  rw [h1, h2]
  show (if SeqAt.shaped p = true ∧ SeqAt.shaped q = true then some (PyData.eqv p q) else none) = _
  rw [if_pos ⟨h3, h4⟩]
theorem eq_int : eqOp S (.int i) (.int j) = some (decide (i = j)) := by
  rw [eq_of (p := .int i) (q := .int j) (by unfold pyS deref pyd; rfl) (by unfold pyS deref pyd; rfl) rfl rfl]
  unfold PyData.eqv
  rfl
theorem eq_str (h1 : PyData.strOk z = true) (h2 : PyData.strOk u = true) : eqOp S (.str z) (.str u) = some (decide (z = u)) := by
  rw [eq_of (p := .str z) (q := .str u) (by unfold pyS deref pyd; rfl) (by unfold pyS deref pyd; rfl) (by unfold SeqAt.shaped PyData.canLay0; rw [h1]; rfl) (by unfold SeqAt.shaped PyData.canLay0; rw [h2]; rfl)]
  unfold PyData.eqv
  rw [Bool.eq_iff_iff.mpr (by simp : (z == u) = true ↔ decide (z = u) = true)]
theorem c_eq : cmpop .eq S x y = (eqOp S x y).map .bool := rfl
theorem c_ne : cmpop .ne S x y = (eqOp S x y).map fun r => .bool (!r) := rfl
theorem c_in : cmpop .in_ S x y = (inOp S x y).map .bool := rfl
theorem c_nin : cmpop .nin S x y = (inOp S x y).map fun r => .bool (!r) := rfl
theorem ix_list : ixop S (.list xs) (.int i) = atI xs i := rfl
theorem ix_tup : ixop S (.tup xs) (.int i) = atI xs i := rfl
theorem ix_refL (h : S[n]? = some (.list xs)) : ixop S (.ref n) (.int i) = atI xs i := by
  unfold ixop isDict
  simp only [h]
  unfold seqOf deref
  simp only [h]
  rfl
theorem ix_refK {kvs : List (Key × D)} (h : S[n]? = some (.dK kvs)) : ixop S (.ref n) x = ((keyOf x).bind fun k => (kvs.find? fun q => decide (q.1 = k)).map (·.2)) := by
  unfold ixop isDict
  simp only [h]
  unfold dGet
  simp only [h]
  cases keyOf x <;> rfl
theorem len_list : bfn .len S [.list xs] = some (.int xs.length) := rfl
theorem len_tup : bfn .len S [.tup xs] = some (.int xs.length) := rfl
theorem len_ref (h : S[n]? = some (.list xs)) : bfn .len S [.ref n] = some (.int xs.length) := by
  unfold bfn
  simp only [seqOf, deref, h]
theorem deref_ref (h : S[n]? = some (.list xs)) : deref S (.ref n) = .list xs := by
  unfold deref
  simp only [h]
/-- a natural index -/
theorem atI_nat {α : Type} {l : List α} {m : Nat} : atI l (m : Int) = l[m]? := by
  unfold atI ixN
  rw [if_pos (by omega)]
  by_cases h : (m : Int) < l.length
  · rw [if_pos h]
    simp
  · rw [if_neg h, List.getElem?_eq_none (by omega)]
    rfl
end
theorem asg_n {i : Nat} {d : D} {η : Env} : asg (.n i) d η = if i < η.length then some (η.set i (some d)) else none := by unfold asg; rfl
theorem asg_t {ts : List Tg} {xs : List D} {η : Env} : asg (.t ts) (.tup xs) η = asgs ts xs η := by unfold asg; rfl
theorem asgs_0 {η : Env} : asgs [] [] η = some η := by unfold asgs; rfl
theorem asgs_1 {t : Tg} {ts : List Tg} {x : D} {xs : List D} {η : Env} : asgs (t :: ts) (x :: xs) η = (asg t x η).bind (asgs ts xs) := by conv => lhs; unfold asgs
end Mi
set_option Elab.async false
set_option linter.all false
namespace Mi
open PySem L2
theorem big_l {i j : Int} (h : -(2 ^ 64) < i) (h2 : i < 2 ^ 64) : bigMul i j = true := by
  unfold bigMul
  simp only [h, h2, decide_true, Bool.and_self, Bool.true_or]
theorem big_r {i j : Int} (h : -(2 ^ 64) < j) (h2 : j < 2 ^ 64) : bigMul i j = true := by
  unfold bigMul
  simp only [h, h2, decide_true, Bool.and_self, Bool.or_true]
/-- the old cells but these stand as they stood -/
def Fr (ds : List Nat) (S S' : Store) : Prop := S.length ≤ S'.length ∧ ∀ m, m < S.length → m ∉ ds → S'[m]? = S[m]?
theorem Fr.refl (ds : List Nat) (S : Store) : Fr ds S S := ⟨Nat.le_refl _, fun _ _ _ => rfl⟩
theorem Fr.trans {ds : List Nat} {S S' S'' : Store} (h : Fr ds S S') (h2 : Fr ds S' S'') : Fr ds S S'' :=
  ⟨Nat.le_trans h.1 h2.1, fun m hm hd => (h2.2 m (Nat.lt_of_lt_of_le hm h.1) hd).trans (h.2 m hm hd)⟩
theorem Fr.sub {ds es : List Nat} {S S' : Store} (h : Fr ds S S') (hs : ∀ d ∈ ds, d ∈ es ∨ S.length ≤ d) : Fr es S S' :=
  ⟨h.1, fun m hm hd => h.2 m hm fun z => (hs m z).elim hd fun q => absurd hm (Nat.not_lt.mpr q)⟩
theorem Fr.app (ds : List Nat) (S : Store) (T : Store) : Fr ds S (S ++ T) :=
  ⟨by simp, fun m hm _ => List.getElem?_append_left hm⟩
theorem Fr.set {ds : List Nat} {S : Store} {d : Nat} {c : Cell} (h : d ∈ ds) : Fr ds S (S.set d c) :=
  ⟨by simp, fun m _ hd => List.getElem?_set_ne fun (z : d = m) => hd (by rw [← z]; exact h)⟩
/-- a new cell -/
theorem Fr.setNew {ds : List Nat} {S S' : Store} {d : Nat} {c : Cell} (h : Fr ds S S') (hd : S.length ≤ d) : Fr ds S (S'.set d c) :=
  ⟨by simpa using h.1, fun m hm hn => by rw [List.getElem?_set_ne (by omega)]; exact h.2 m hm hn⟩
theorem Fr.get {ds : List Nat} {S S' : Store} {m : Nat} {c : Cell} (h : Fr ds S S') (e : S[m]? = some c) (hd : m ∉ ds) : S'[m]? = some c :=
  (h.2 m (List.getElem?_eq_some_iff.mp e).1 hd).trans e
theorem get_lt {S : Store} {m : Nat} {c : Cell} (e : S[m]? = some c) : m < S.length := (List.getElem?_eq_some_iff.mp e).1
theorem get_new {S : Store} {c : Cell} : (S ++ [c])[S.length]? = some c := by simp
theorem get_set {S : Store} {m : Nat} {c c' : Cell} (e : S[m]? = some c) : (S.set m c')[m]? = some c' := by
  rw [List.getElem?_set_self (get_lt e)]
theorem get_ne {S : Store} {m k : Nat} {c : Cell} (h : k ≠ m) : (S.set k c)[m]? = S[m]? := List.getElem?_set_ne h
/-- an index into a list of integers -/
theorem int_at {l : List Int} {i : Int} (h0 : 0 ≤ i) (h1 : i < l.length) : ∃ v ∈ l, atI (l.map D.int) i = some (.int v) := by
  obtain ⟨m, rfl⟩ := Int.eq_ofNat_of_zero_le h0
  have hm : m < l.length := by omega
  exact ⟨l[m], List.getElem_mem hm, by rw [atI_nat, List.getElem?_map, List.getElem?_eq_getElem hm]; rfl⟩
end Mi
set_option Elab.async false
set_option linter.all false
set_option maxRecDepth 100000
namespace Mi
open PySem L2 Tt
local macro_rules | `(tactic| array_get_dec) => `(tactic| simp only [wipeD, ok_exs, ok_exs0, go_next, go_ret, go_brk, go_cont, ok_sex, ok_ret, ok_set, ok_par, ok_seti, ok_seta, ok_site, ok_for, ok_pass, ok_brk, ok_cont, ok_v, ok_c, ok_g, ok_tup, ok_list, ok_mlist, ok_mdict, ok_mdictT, ok_edict, ok_bin, ok_mulm, ok_addm, ok_rngm, ok_neg, ok_cmp, ok_eqE, ok_cmp2, ok_isN, ok_isB, ok_not, ok_eite, ok_ix, ok_sl, ok_slm, ok_vals, ok_rev, ok_attr, ok_cattr, ok_call, ok_bc, ok_isi, ok_meth, ok_bm, ok_cm, ok_mk, ok_mkv, ok_mkx, ok_cs, ok_cmv, ok_lc2, ok_raise, ok_try, ok_fz, ok_lc, ok_evs0, ok_evs1, ok_evsS, ok_and, ok_or, ok_and1, ok_and2, ok_or1, ok_or2, ok_t0, ok_t1, ok_bind, ok_truth, b_add, b_sub, b_mul, b_fdiv, b_mod, b_pow, b_tup, b_list, ite_some, c_lt, c_le, c_gt, c_ge, c_eq, c_ne, eq_int, eq_str, Option.map_some, ix_list, ix_tup, len_list, len_tup, asg_n, asg_t, asgs_0, asgs_1, List.map_cons, List.map_nil, List.length_cons, List.length_nil, List.replicate_succ, List.replicate_zero, List.cons_append, List.nil_append, List.append_nil, Nat.reduceAdd, Nat.reduceSub, Nat.reduceLT, Nat.zero_add, Nat.lt_add_one, Nat.zero_lt_succ, Nat.succ_pos, List.set_cons_zero, List.set_cons_succ, List.getElem?_cons_zero, List.getElem?_cons_succ, Option.bind_some, Option.some.injEq, D.bool.injEq, D.int.injEq, exists_eq_left', exists_eq_left, exists_eq_right, exists_eq_right', exists_and_left, and_true, true_and, if_true, ne_eq, reduceCtorEq, not_false_eq_true, implies_true, if_pos, partE, exists_const, and_assoc, Prod.mk.injEq, if_false, Int.reduceToNat, Int.reducePow, Nat.reducePow, Int.reduceLT, Int.reduceLE, Int.reduceNeg, Int.reduceAdd, Int.reduceSub, Int.reduceMul, decide_eq_true_eq])
theorem t_mixed (n : Nat) (c k : Int) (S : Store) (h0 : 0 ≤ k) (hk : k < 2 ^ 40) (Q : D → Store → Prop) (h : ∀ v, 0 ≤ v → Q (.int v) S) : Ok (callM T.prog (run T.prog (n + 1)) i__law_mixed [.int c, .int k] [] [] S) Q nx := by
  refine ok_fn (fn := f__law_mixed) (ds := [.int c, .int k]) rfl rfl ?_
  unfold f__law_mixed
  array_get_dec
  refine ⟨big_l (by decide) (by decide), big_r (by omega) (by omega), big_l (by decide) (by decide), ?_⟩
  generalize (c % 1000000007 + 7919 * k * k + 31 * k + 7) = a
  have a1 := Int.emod_nonneg a (b := 2147483647) (by decide)
  have a2 := Int.emod_lt_of_pos a (b := 2147483647) (by decide)
  generalize a % 2147483647 = a at a1 a2 ⊢
  refine ⟨big_l (by omega) (by omega), ?_⟩
  have b1 := Int.emod_nonneg (a * a) (b := 2147483647) (by decide)
  have b2 := Int.emod_lt_of_pos (a * a) (b := 2147483647) (by decide)
  generalize (a * a) % 2147483647 = b at b1 b2 ⊢
  refine ⟨big_l (by omega) (by omega), ?_⟩
  have d1 := Int.emod_nonneg (b * a) (b := 2147483629) (by decide)
  have d2 := Int.emod_lt_of_pos (b * a) (b := 2147483629) (by decide)
  generalize (b * a) % 2147483629 = d at d1 d2 ⊢
  refine ⟨big_l (by decide) (by decide), big_l (by omega) (by omega), ?_⟩
  exact h _ (Int.ediv_nonneg (Int.emod_nonneg _ (by decide)) (by decide))
/-- the draw's dict -/
def dkv (cs : List Int) (a l u : Int) : List (Key × D) := [(.inr "cells", .list (cs.map .int)), (.inr "at", .int a), (.inr "left", .int l), (.inr "used", .int u)]
section
variable {S : Store} {d : Nat} {cs : List Int} {a l u : Int}
theorem dk_cells (h : S[d]? = some (.dK (dkv cs a l u))) : ixop S (.ref d) (.str "cells") = some (.list (cs.map .int)) := by rw [ix_refK h]; rfl
theorem dk_at (h : S[d]? = some (.dK (dkv cs a l u))) : ixop S (.ref d) (.str "at") = some (.int a) := by rw [ix_refK h]; rfl
theorem dk_left (h : S[d]? = some (.dK (dkv cs a l u))) : ixop S (.ref d) (.str "left") = some (.int l) := by rw [ix_refK h]; rfl
theorem dk_used (h : S[d]? = some (.dK (dkv cs a l u))) : ixop S (.ref d) (.str "used") = some (.int u) := by rw [ix_refK h]; rfl
theorem set_refK {n : Nat} {kvs : List (Key × D)} {k : Key} {i v : D} (h : S[n]? = some (.dK kvs)) (hk : keyOf i = some k) (hl : kvs.length < line) : setop (.ref n) i v S = some (.none, S.set n (.dK (putL kvs k v))) := by
  unfold setop
  simp only [h, hk, if_pos hl]
theorem dk_setat (h : S[d]? = some (.dK (dkv cs a l u))) {v : Int} : setop (.ref d) (.str "at") (.int v) S = some (.none, S.set d (.dK (dkv cs v l u))) := by rw [set_refK h rfl (by show 4 < line; decide)]; rfl
theorem dk_setleft (h : S[d]? = some (.dK (dkv cs a l u))) {v : Int} : setop (.ref d) (.str "left") (.int v) S = some (.none, S.set d (.dK (dkv cs a v u))) := by rw [set_refK h rfl (by show 4 < line; decide)]; rfl
theorem dk_setused (h : S[d]? = some (.dK (dkv cs a l u))) {v : Int} : setop (.ref d) (.str "used") (.int v) S = some (.none, S.set d (.dK (dkv cs a l v))) := by rw [set_refK h rfl (by show 4 < line; decide)]; rfl
/-- a draw at d, so many calls behind it at most -/
def Dr (S : Store) (d : Nat) (c : Int) : Prop := ∃ cs a l u, S[d]? = some (.dK (dkv cs a l u)) ∧ cs ≠ [] ∧ cs.length ≤ 64 ∧ 0 ≤ a ∧ a ≤ c ∧ 0 ≤ u ∧ u ≤ c
theorem t_next (n : Nat) (d : Nat) (c b : Int) (S : Store) (h : Dr S d c) (hc : c < 2 ^ 39) (hb : 0 < b) (hb2 : b < 1000000) : Ok (callM T.prog (run T.prog (n + 2)) i__law_next [.ref d, .int b] [] [] S) (fun r S' => ∃ v, r = .int v ∧ 0 ≤ v ∧ v < b ∧ Dr S' d (c + 1) ∧ Fr [d] S S') nx := by
  obtain ⟨cs, a, l, u, h, hne, hl, ha0, ha1, hu0, hu1⟩ := h
  have hln : 0 < cs.length := List.length_pos_iff.mpr hne
  have m1 := Int.emod_nonneg l (b := b) (by omega)
  have m2 := Int.emod_lt_of_pos l hb
  refine ok_fn (fn := f__law_next) (ds := [.ref d, .int b]) rfl rfl ?_
  unfold f__law_next
  array_get_dec
  simp only [dk_left h]
  array_get_dec
  by_cases hlt : 0 < l
  · simp only [if_pos hlt, dk_setleft h]
    refine ⟨hb, hb, by omega, ?_⟩
    array_get_dec
    exact ⟨m1, m2, ⟨cs, a, l / b, u, get_set h, hne, hl, ha0, by omega, hu0, by omega⟩, Fr.set (by simp)⟩
  · obtain ⟨v, hv, ev⟩ := int_at (l := cs) (i := a % cs.length) (Int.emod_nonneg _ (by omega)) (Int.emod_lt_of_pos _ (by omega))
    have g2 := get_set (c' := .dK (dkv cs (a + 1) l u)) h
    simp only [if_neg hlt, dk_cells h, dk_at h, dk_setat h]
    array_get_dec
    simp only [List.length_map, dk_setat h]
    array_get_dec
    simp only [ev]
    array_get_dec
    refine ⟨by omega, ?_⟩
    simp only [dk_at g2, dk_left g2, dk_used g2, dk_setleft g2, dk_setused g2, List.set_set]
    array_get_dec
    refine ⟨by decide, ?_⟩
    have n1 := Int.emod_nonneg v (b := b) (by omega)
    have n2 := Int.emod_lt_of_pos v hb
    have g3 := get_set (c' := .dK (dkv cs (a + 1) l (u + 1))) h
    by_cases hA : 1000000000000000000 ≤ v ∧ a + 1 ≤ (cs.length : Int)
    · simp only [if_pos hA.1, if_pos hA.2]
      exact ⟨hb, by omega, hb, n1, n2, ⟨cs, a + 1, v / b, u, get_set h, hne, hl, by omega, by omega, hu0, by omega⟩, Fr.set (by simp)⟩
    · have e : ∀ Y Z : Prop, (if 1000000000000000000 ≤ v then (if a + 1 ≤ (cs.length : Int) then Y else Z) else Z) = Z := fun Y Z => by
        by_cases q : 1000000000000000000 ≤ v
        · rw [if_pos q, if_neg fun z => hA ⟨q, z⟩]
        · rw [if_neg q]
      simp only [e, dk_setused g2]
      array_get_dec
      simp only [dk_at g3, List.set_set]
      array_get_dec
      refine (t_mixed n v (a + 1) _ (by omega) (by omega) (fun r S1 => (∃ w, r = .int w) ∧ S1 = S.set d (.dK (dkv cs (a + 1) l (u + 1)))) fun w _ => ⟨⟨w, rfl⟩, rfl⟩).mono fun r S1 q => ?_
      obtain ⟨⟨w, rfl⟩, rfl⟩ := q
      simp only [dk_used g3]
      array_get_dec
      refine (t_mixed n w (u + 1) _ (by omega) (by omega) (fun r S1 => (∃ w, r = .int w) ∧ S1 = S.set d (.dK (dkv cs (a + 1) l (u + 1)))) fun w _ => ⟨⟨w, rfl⟩, rfl⟩).mono fun r S1 q => ?_
      obtain ⟨⟨w, rfl⟩, rfl⟩ := q
      array_get_dec
      exact ⟨hb, Int.emod_nonneg _ (by omega), Int.emod_lt_of_pos _ hb, ⟨cs, a + 1, l, u + 1, g3, hne, hl, by omega, by omega, by omega, by omega⟩, Fr.set (by simp)⟩
end
end Mi
set_option Elab.async false
set_option linter.all false
namespace Mi
open PySem L2
/-- a tree grown station by station -/
inductive Grown : List (Nat × Nat) → Prop where
  | nil : Grown []
  | fore {ps : List (Nat × Nat)} {b : Nat} : Grown ps → b ≤ ps.length → Grown (ps ++ [(b, ps.length + 1)])
  | back {ps : List (Nat × Nat)} {b : Nat} : Grown ps → b ≤ ps.length → Grown (ps ++ [(ps.length + 1, b)])
/-- nx s v: the next station from v towards s; dp s v: how far -/
structure IsTree (n : Nat) (adj : Nat → Nat → Prop) (nx dp : Nat → Nat → Nat) : Prop where
  nxs : ∀ s, s < n → nx s s = s
  dps : ∀ s, s < n → dp s s = 0
  nxlt : ∀ s v, s < n → v < n → nx s v < n
  nxadj : ∀ s v, s < n → v < n → v ≠ s → adj v (nx s v)
  dpnx : ∀ s v, s < n → v < n → v ≠ s → dp s v = dp s (nx s v) + 1
  lt : ∀ u v, adj u v → u < n ∧ v < n
  sym : ∀ u v, adj u v → adj v u
  irr : ∀ u v, adj u v → u ≠ v
  t1 : ∀ s u w, s < n → adj u w → nx s u = w ∨ nx s w = u
  dplt : ∀ s v, s < n → v < n → dp s v < n
/-- from s to v -/
def pthF (nx : Nat → Nat → Nat) (s : Nat) : Nat → Nat → List Nat
  | 0, v => [v]
  | k + 1, v => pthF nx s k (nx s v) ++ [v]
/-- from v to s -/
def wayF (nx : Nat → Nat → Nat) (s : Nat) : Nat → Nat → List Nat
  | 0, v => [v]
  | k + 1, v => v :: wayF nx s k (nx s v)
theorem way_rev (nx : Nat → Nat → Nat) (s : Nat) : ∀ k v, (pthF nx s k v).reverse = wayF nx s k v
  | 0, v => rfl
  | k + 1, v => by
    unfold pthF wayF
    rw [List.reverse_append, way_rev nx s k]
    rfl
namespace IsTree
variable {n : Nat} {adj : Nat → Nat → Prop} {nx dp : Nat → Nat → Nat} {s v u w : Nat}
abbrev pth (nx dp : Nat → Nat → Nat) (s v : Nat) : List Nat := pthF nx s (dp s v) v
abbrev way (nx dp : Nat → Nat → Nat) (s v : Nat) : List Nat := wayF nx s (dp s v) v
theorem pth_self (T : IsTree n adj nx dp) (hs : s < n) : pth nx dp s s = [s] := by
  unfold pth
  rw [T.dps s hs]
  rfl
theorem pth_step (T : IsTree n adj nx dp) (hs : s < n) (hv : v < n) (h : v ≠ s) : pth nx dp s v = pth nx dp s (nx s v) ++ [v] := by
  unfold pth
  rw [T.dpnx s v hs hv h]
  rfl
theorem way_self (T : IsTree n adj nx dp) (hs : s < n) : way nx dp s s = [s] := by
  unfold way
  rw [T.dps s hs]
  rfl
theorem way_step (T : IsTree n adj nx dp) (hs : s < n) (hv : v < n) (h : v ≠ s) : way nx dp s v = v :: way nx dp s (nx s v) := by
  unfold way
  rw [T.dpnx s v hs hv h]
  rfl
/-- y stands on the way from v to s -/
inductive On (nx : Nat → Nat → Nat) (s v : Nat) : Nat → Prop where
  | here : On nx s v v
  | next {y : Nat} : On nx s v y → y ≠ s → On nx s v (nx s y)
theorem On.lt (T : IsTree n adj nx dp) (hs : s < n) (hv : v < n) {y : Nat} (h : On nx s v y) : y < n := by
  induction h with
  | here => exact hv
  | next _ _ ih => exact T.nxlt _ _ hs ih
theorem On.back (T : IsTree n adj nx dp) (hs : s < n) (hv : v < n) {y : Nat} (h : On nx s v y) : y ≠ s → nx v (nx s y) = y := by
  induction h with
  | here =>
    intro hvs
    have a := T.nxadj s v hs hv hvs
    rcases T.t1 v v (nx s v) hv a with e | e
    · rw [T.nxs v hv] at e
      exact absurd e (T.irr _ _ a)
    · exact e
  | @next y h hy ih =>
    intro hne
    have hyl := h.lt T hs hv
    have hl := T.nxlt s y hs hyl
    have a := T.nxadj s (nx s y) hs hl hne
    rcases T.t1 v (nx s y) _ hv a with e | e
    · rw [ih hy] at e
      have d1 := T.dpnx s y hs hyl hy
      have d2 := T.dpnx s (nx s y) hs hl hne
      rw [← e] at d2
      omega
    · exact e
/-- the way there is the way back -/
theorem pth_way_on (T : IsTree n adj nx dp) (hs : s < n) (hv : v < n) : ∀ k y, dp s y = k → On nx s v y → pth nx dp v s = pth nx dp v y ++ (way nx dp s y).tail := by
  intro k
  induction k with
  | zero =>
    intro y hk h
    have hy := h.lt T hs hv
    have e : y = s := by
      rcases Nat.decEq y s with q | q
      · have := T.dpnx s y hs hy q; omega
      · exact q
    subst e
    rw [T.way_self hs]
    simp
  | succ k ih =>
    intro y hk h
    have hy := h.lt T hs hv
    have hys : y ≠ s := fun e => by
      rw [e, T.dps s hs] at hk; omega
    have hd := T.dpnx s y hs hy hys
    have b := h.back T hs hv hys
    have hn := T.nxlt s y hs hy
    have hnv : nx s y ≠ v := fun e => by
      rw [e, T.nxs v hv] at b
      exact T.irr _ _ (T.nxadj s y hs hy hys) (by rw [e]; exact b.symm)
    rw [ih (nx s y) (by omega) (h.next hys), T.pth_step hv hn hnv, b, T.way_step hs hy hys]
    have e2 : way nx dp s (nx s y) = nx s y :: (way nx dp s (nx s y)).tail := by
      rcases Nat.decEq (nx s y) s with q | q
      · rw [T.way_step hs hn q]; rfl
      · rw [q, T.way_self hs]; rfl
    rw [List.tail_cons, List.append_assoc]
    conv => rhs; rw [e2]
    rfl
theorem pth_way (T : IsTree n adj nx dp) (hs : s < n) (hv : v < n) : pth nx dp v s = way nx dp s v := by
  rw [T.pth_way_on hs hv _ v rfl .here, T.pth_self hv]
  rcases Nat.decEq v s with q | q
  · rw [T.way_step hs hv q]; rfl
  · subst q; rw [T.way_self hs]; rfl
theorem pth_rev (T : IsTree n adj nx dp) (hs : s < n) (hv : v < n) : (pth nx dp s v).reverse = pth nx dp v s := by
  rw [T.pth_way hs hv]
  exact way_rev nx s _ v
theorem pth_len (nx : Nat → Nat → Nat) (s : Nat) : ∀ k v, (pthF nx s k v).length = k + 1
  | 0, v => rfl
  | k + 1, v => by
    unfold pthF
    rw [List.length_append, pth_len nx s k]
    rfl
theorem dp_sym (T : IsTree n adj nx dp) (hs : s < n) (hv : v < n) : dp s v = dp v s := by
  have e := congrArg List.length (T.pth_rev hs hv)
  rw [List.length_reverse, pth_len, pth_len] at e
  omega
/-- the first step of a longer way -/
theorem first (T : IsTree n adj nx dp) {a : Nat} (ha : a < n) (hu : u < n) (hw : w < n) (hua : u ≠ a) (hwa : w ≠ a) (h : nx a w = u) : nx w a = nx u a := by
  have e1 := T.pth_way hw ha
  have e2 := T.pth_way hu ha
  rw [T.pth_step ha hw hwa, h, e2, T.way_step hu ha (Ne.symm hua), T.way_step hw ha (Ne.symm hwa)] at e1
  have hd : ∀ s v, s < n → v < n → (way nx dp s v).head? = some v := fun s v hs hv => by
    rcases Nat.decEq v s with q | q
    · rw [T.way_step hs hv q]; rfl
    · subst q; rw [T.way_self hs]; rfl
  have e3 := (List.cons.inj e1).2
  have h1 := hd w (nx w a) hw (T.nxlt _ _ hw ha)
  have h2 := hd u (nx u a) hu (T.nxlt _ _ hu ha)
  rw [← e3] at h1
  cases q : way nx dp u (nx u a) with
  | nil => rw [q] at h2; cases h2
  | cons x t =>
    rw [q] at h1 h2
    simp at h1 h2
    rw [← h1, ← h2]
/-- the side of an edge a - b: another edge does not cross it -/
theorem side (T : IsTree n adj nx dp) {a b : Nat} (hab : adj a b) (huw : adj u w) (h1 : ¬(u = a ∧ w = b)) (h2 : ¬(u = b ∧ w = a)) : (nx u a = b ↔ nx w a = b) := by
  obtain ⟨ha, hb⟩ := T.lt _ _ hab
  obtain ⟨hu, hw⟩ := T.lt _ _ huw
  have key : ∀ u w, adj u w → ¬(u = a ∧ w = b) → nx a w = u → (nx u a = b ↔ nx w a = b) := by
    intro u w huw h1 e
    obtain ⟨hu, hw⟩ := T.lt _ _ huw
    have hwa : w ≠ a := fun z => by
      rw [z, T.nxs a ha] at e
      exact T.irr _ _ huw (by rw [z]; exact e.symm)
    rcases Nat.decEq u a with q | q
    · rw [T.first ha hu hw q hwa e]
    · subst q
      rw [T.nxs u ha]
      have e2 : nx w u = w := by
        rcases T.t1 w u w hw huw with z | z
        · exact z
        · rw [T.nxs w hw] at z; exact absurd z.symm (T.irr _ _ huw)
      rw [e2]
      constructor
      · intro z; exact absurd z (T.irr _ _ hab)
      · intro z; exact absurd ⟨rfl, z⟩ h1
  rcases T.t1 a u w ha huw with e | e
  · exact (key w u (T.sym _ _ huw) (fun z => h2 ⟨z.2, z.1⟩) e).symm
  · exact key u w huw h1 e
theorem side_ends (T : IsTree n adj nx dp) {a b : Nat} (hab : adj a b) : nx b a = b ∧ nx a a ≠ b := by
  obtain ⟨ha, hb⟩ := T.lt _ _ hab
  refine ⟨?_, by rw [T.nxs a ha]; exact T.irr _ _ hab⟩
  rcases T.t1 b a b hb hab with z | z
  · exact z
  · rw [T.nxs b hb] at z; exact absurd z.symm (T.irr _ _ hab)
end IsTree
/-- stations joined by a track -/
def adjOf (ps : List (Nat × Nat)) (u v : Nat) : Prop := (u, v) ∈ ps ∨ (v, u) ∈ ps
theorem tree_grow {n b : Nat} {adj adj' : Nat → Nat → Prop} {nx dp : Nat → Nat → Nat} (T : IsTree n adj nx dp) (hb : b < n) (ha : ∀ u v, adj' u v ↔ adj u v ∨ (u = b ∧ v = n) ∨ (u = n ∧ v = b)) :
    ∃ nx' dp', IsTree (n + 1) adj' nx' dp' := by
  refine ⟨fun s v => if v = n then (if s = n then n else b) else if s = n then (if v = b then n else nx b v) else nx s v,
    fun s v => if v = n then (if s = n then 0 else dp s b + 1) else if s = n then dp b v + 1 else dp s v, ?_, ?_, ?_, ?_, ?_, ?_, ?_, ?_, ?_, ?_⟩
  · intro s hs
    by_cases e : s = n
    · simp [e]
    · simp only [if_neg e]; exact T.nxs s (by omega)
  · intro s hs
    by_cases e : s = n
    · simp [e]
    · simp only [if_neg e]; exact T.dps s (by omega)
  · intro s v hs hv
    by_cases e : v = n
    · simp only [if_pos e]; split <;> omega
    · simp only [if_neg e]
      by_cases e2 : s = n
      · simp only [if_pos e2]
        split
        · omega
        · have := T.nxlt b v hb (by omega); omega
      · simp only [if_neg e2]; have := T.nxlt s v (by omega) (by omega); omega
  · intro s v hs hv hne
    rw [ha]
    by_cases e : v = n
    · subst e
      simp only [if_true, if_neg (Ne.symm hne)]
      simp
    · simp only [if_neg e]
      by_cases e2 : s = n
      · subst e2
        simp only [if_true]
        by_cases e3 : v = b
        · subst e3; simp
        · simp only [if_neg e3]; exact .inl (T.nxadj b v hb (by omega) e3)
      · simp only [if_neg e2]; exact .inl (T.nxadj s v (by omega) (by omega) hne)
  · intro s v hs hv hne
    by_cases e : v = n
    · subst e
      have hbn : b ≠ v := by omega
      simp only [if_true, if_neg (Ne.symm hne), if_neg hbn]
    · simp only [if_neg e]
      by_cases e2 : s = n
      · subst e2
        simp only [if_true]
        by_cases e3 : v = b
        · subst e3; simp only [if_true, T.dps v hb]
        · have := T.nxlt b v hb (by omega)
          simp only [if_neg e3, if_neg (show nx b v ≠ s by omega)]
          rw [T.dpnx b v hb (by omega) e3]
      · have := T.nxlt s v (by omega) (by omega)
        simp only [if_neg e2, if_neg (show nx s v ≠ n by omega)]
        exact T.dpnx s v (by omega) (by omega) hne
  · intro u v h
    rcases (ha u v).mp h with h | ⟨rfl, rfl⟩ | ⟨rfl, rfl⟩
    · have := T.lt _ _ h; omega
    · omega
    · omega
  · intro u v h
    rw [ha] at h ⊢
    rcases h with h | ⟨rfl, rfl⟩ | ⟨rfl, rfl⟩
    · exact .inl (T.sym _ _ h)
    · exact .inr (.inr ⟨rfl, rfl⟩)
    · exact .inr (.inl ⟨rfl, rfl⟩)
  · intro u v h
    rcases (ha u v).mp h with h | ⟨rfl, rfl⟩ | ⟨rfl, rfl⟩
    · exact T.irr _ _ h
    · omega
    · omega
  · intro s u w hs h
    have hbn : b ≠ n := by omega
    rcases (ha u w).mp h with h | ⟨rfl, rfl⟩ | ⟨rfl, rfl⟩
    · obtain ⟨hu, hw⟩ := T.lt _ _ h
      have hun : u ≠ n := by omega
      have hwn : w ≠ n := by omega
      simp only [if_neg hun, if_neg hwn]
      by_cases e2 : s = n
      · simp only [if_pos e2]
        rcases T.t1 b u w hb h with z | z
        · have hub : u ≠ b := fun q => by
            rw [q, T.nxs b hb] at z
            exact T.irr _ _ h (by rw [q]; exact z)
          exact .inl (by rw [if_neg hub]; exact z)
        · have hwb : w ≠ b := fun q => by
            rw [q, T.nxs b hb] at z
            exact T.irr _ _ h (by rw [q]; exact z.symm)
          exact .inr (by rw [if_neg hwb]; exact z)
      · simp only [if_neg e2]
        exact T.t1 s u w (by omega) h
    · by_cases e2 : s = w
      · subst e2; simp [hbn]
      · simp [e2, hbn]
    · by_cases e2 : s = u
      · subst e2; simp [hbn]
      · simp [e2, hbn]
  · intro s v hs hv
    by_cases e : v = n
    · simp only [if_pos e]
      split
      · omega
      · have := T.dplt s b (by omega) hb; omega
    · simp only [if_neg e]
      by_cases e2 : s = n
      · simp only [if_pos e2]; have := T.dplt b v hb (by omega); omega
      · simp only [if_neg e2]; have := T.dplt s v (by omega) (by omega); omega
theorem tree_of {ps : List (Nat × Nat)} (h : Grown ps) : ∃ nx dp, IsTree (ps.length + 1) (adjOf ps) nx dp := by
  induction h with
  | nil =>
    refine ⟨fun s _ => s, fun _ _ => 0, fun s _ => rfl, fun s _ => rfl, fun s v hs _ => hs, fun s v hs hv hne => ?_, fun s v hs hv hne => ?_, ?_, ?_, ?_, ?_, fun s v hs hv => Nat.zero_lt_succ _⟩
    · simp at hs hv; omega
    · simp at hs hv; omega
    all_goals intro u v
    · intro h; simp [adjOf] at h
    · intro h; simp [adjOf] at h
    · intro h; simp [adjOf] at h
    · intro w _ h; simp [adjOf] at h
  | @fore ps b hg hb ih =>
    obtain ⟨nx, dp, T⟩ := ih
    have := tree_grow (b := b) (adj' := adjOf (ps ++ [(b, ps.length + 1)])) T (by omega) fun u v => by
      unfold adjOf
      simp only [List.mem_append, List.mem_singleton, Prod.mk.injEq]
      constructor
      · rintro ((h | h) | (h | h))
        · exact .inl (.inl h)
        · exact .inr (.inl h)
        · exact .inl (.inr h)
        · exact .inr (.inr ⟨h.2, h.1⟩)
      · rintro ((h | h) | h | h)
        · exact .inl (.inl h)
        · exact .inr (.inl h)
        · exact .inl (.inr h)
        · exact .inr (.inr ⟨h.2, h.1⟩)
    simpa using this
  | @back ps b hg hb ih =>
    obtain ⟨nx, dp, T⟩ := ih
    have := tree_grow (b := b) (adj' := adjOf (ps ++ [(ps.length + 1, b)])) T (by omega) fun u v => by
      unfold adjOf
      simp only [List.mem_append, List.mem_singleton, Prod.mk.injEq]
      constructor
      · rintro ((h | h) | (h | h))
        · exact .inl (.inl h)
        · exact .inr (.inr h)
        · exact .inl (.inr h)
        · exact .inr (.inl ⟨h.2, h.1⟩)
      · rintro ((h | h) | h | h)
        · exact .inl (.inl h)
        · exact .inr (.inl h)
        · exact .inr (.inr ⟨h.2, h.1⟩)
        · exact .inl (.inr h)
    simpa using this
end Mi
set_option Elab.async false
set_option linter.all false
set_option maxRecDepth 100000
namespace Mi
open PySem L2 Tt
local macro_rules | `(tactic| array_get_dec) => `(tactic| simp only [wipeD, ok_exs, ok_exs0, go_next, go_ret, go_brk, go_cont, ok_sex, ok_ret, ok_set, ok_par, ok_seti, ok_seta, ok_site, ok_for, ok_pass, ok_brk, ok_cont, ok_v, ok_c, ok_g, ok_tup, ok_list, ok_mlist, ok_mdict, ok_mdictT, ok_edict, ok_bin, ok_mulm, ok_addm, ok_rngm, ok_neg, ok_cmp, ok_eqE, ok_cmp2, ok_isN, ok_isB, ok_not, ok_eite, ok_ix, ok_sl, ok_slm, ok_vals, ok_rev, ok_attr, ok_cattr, ok_call, ok_bc, ok_isi, ok_meth, ok_bm, ok_cm, ok_mk, ok_mkv, ok_mkx, ok_cs, ok_cmv, ok_lc2, ok_raise, ok_try, ok_fz, ok_lc, ok_evs0, ok_evs1, ok_evsS, ok_and, ok_or, ok_and1, ok_and2, ok_or1, ok_or2, ok_t0, ok_t1, ok_bind, ok_truth, b_add, b_sub, b_mul, b_fdiv, b_mod, b_pow, b_tup, b_list, ite_some, c_lt, c_le, c_gt, c_ge, c_eq, c_ne, eq_int, eq_str, Option.map_some, ix_list, ix_tup, len_list, len_tup, asg_n, asg_t, asgs_0, asgs_1, List.map_cons, List.map_nil, List.length_cons, List.length_nil, List.replicate_succ, List.replicate_zero, List.cons_append, List.nil_append, List.append_nil, Nat.reduceAdd, Nat.reduceSub, Nat.reduceLT, Nat.zero_add, Nat.lt_add_one, Nat.zero_lt_succ, Nat.succ_pos, List.set_cons_zero, List.set_cons_succ, List.getElem?_cons_zero, List.getElem?_cons_succ, Option.bind_some, Option.some.injEq, D.bool.injEq, D.int.injEq, exists_eq_left', exists_eq_left, exists_eq_right, exists_eq_right', exists_and_left, and_true, true_and, if_true, ne_eq, reduceCtorEq, not_false_eq_true, implies_true, if_pos, partE, exists_const, and_assoc, Prod.mk.injEq, if_false, Int.reduceToNat, Int.reducePow, Nat.reducePow, Int.reduceLT, Int.reduceLE, Int.reduceNeg, Int.reduceAdd, Int.reduceSub, Int.reduceMul, decide_eq_true_eq])
def pairD (p : Nat × Nat) : D := .tup [.int p.1, .int p.2]
theorem Dr.lt {S : Store} {d : Nat} {c : Int} (h : Dr S d c) : d < S.length := by
  obtain ⟨cs, a, l, u, h, _⟩ := h
  exact get_lt h
theorem Dr.le {S : Store} {d : Nat} {c c' : Int} (h : Dr S d c) (hc : c ≤ c') : Dr S d c' := by
  obtain ⟨cs, a, l, u, h, h1, h2, h3, h4, h5, h6⟩ := h
  exact ⟨cs, a, l, u, h, h1, h2, h3, by omega, h5, by omega⟩
theorem Dr.fr {S S' : Store} {d : Nat} {c : Int} {ds : List Nat} (h : Dr S d c) (f : Fr ds S S') (hd : d ∉ ds) : Dr S' d c := by
  obtain ⟨cs, a, l, u, h, r⟩ := h
  exact ⟨cs, a, l, u, f.get h hd, r⟩
theorem append_ref {S : Store} {n : Nat} {xs : List D} {x : D} (h : S[n]? = some (.list xs)) (hl : xs.length < line) : bmeth .append (.ref n) S [x] = some (.none, S.set n (.list (xs ++ [x]))) := by
  unfold bmeth
  simp only [h, if_pos hl]
theorem bmTy_ref {S : Store} {n : Nat} {xs : List D} (h : S[n]? = some (.list xs)) : bmTy .append S (.ref n) = true := by
  unfold bmTy listOf
  rw [deref_ref h]
  rfl
theorem rng2_items {a b : Int} (h1 : -(2 ^ 62) ≤ a) (h2 : a < 2 ^ 62) (h3 : -(2 ^ 62) ≤ b) (h4 : b < 2 ^ 62) (h5 : (b - a).toNat ≤ 2 ^ 24) : items .rng2 [.int a, .int b] = some (rangeD a b) := by
  show (if rangeOk a b then some (rangeD a b) else none) = _
  rw [if_pos (by unfold rangeOk; simp only [h1, h2, h3, h4, h5, decide_true, Bool.and_self])]
theorem max2_int {S : Store} {a b : Int} : bfn .max2 S [.int a, .int b] = some (.int (if b > a then b else a)) := rfl
theorem sl_ref {S : Store} {n : Nat} {xs : List D} {l h : Option Int} (e : S[n]? = some (.list xs)) : slop S (.ref n) l h = some (.list (cutD xs l h)) := by
  unfold slop
  rw [deref_ref e]
theorem cut_from {xs : List D} {j : Nat} (h : j ≤ xs.length) : cutD xs (some (j : Int)) none = xs.drop j := by
  unfold cutD
  rw [HT.sIx_nat, HT.sIx_none, Nat.min_eq_left h]
  exact List.take_of_length_le (by simp)
theorem cut_to {xs : List D} {j : Nat} (h : j ≤ xs.length) : cutD xs none (some (j : Int)) = xs.take j := by
  unfold cutD
  rw [HT.sIx_nat, HT.sIx_none, Nat.min_eq_left h]
  simp
theorem t_tracks (n : Nat) (d : Nat) (c : Int) (b : Nat) (S : Store) (h : Dr S d c) (hc0 : 0 ≤ c) (hc : c < 2 ^ 38) (hb : 0 < b) (hb2 : b ≤ 100) : Ok (callM T.prog (run T.prog (n + 3)) i__law_tracks [.ref d, .int b] [] [] S)
    (fun r S' => ∃ ps k, Grown ps ∧ ps.length < b ∧ k ≤ ps.length ∧ r = .tup ((ps.drop k ++ ps.take k).map pairD) ∧ Dr S' d (c + 400) ∧ Fr [d] S S') nx := by
  refine ok_fn (fn := f__law_tracks) (ds := [.ref d, .int b]) rfl rfl ?_
  unfold f__law_tracks
  array_get_dec
  refine (t_next n d c b S h (by omega) (by omega) (by omega)).mono fun r S1 q => ?_
  obtain ⟨v, rfl, v0, v1, h1, f1⟩ := q
  array_get_dec
  refine (t_next n d (c + 1) 5 S1 h1 (by omega) (by omega) (by omega)).mono fun r S2 q => ?_
  obtain ⟨sh, rfl, s0, s1, h2, f2⟩ := q
  refine ⟨by decide, ?_⟩
  obtain ⟨m, rfl⟩ := Int.eq_ofNat_of_zero_le v0
  refine ⟨_, rng2_items (by omega) (by omega) (by omega) (by omega) (by omega), ?_⟩
  have hdl : d < S2.length := h2.lt
  refine for_inv (fun rest η S' => ∃ ps o2 o7 o8, rest = (List.range' ps.length (m - ps.length)).map (fun i : Nat => D.int (1 + i)) ∧ ps.length ≤ m ∧ Grown ps ∧
    η = [some (D.ref d), some (D.int b), o2, none, some (D.int (1 + m)), some (D.int sh), some (D.ref S2.length), o7, o8] ∧ S'[S2.length]? = some (.list (ps.map pairD)) ∧ Dr S' d (c + 2 + 3 * ps.length) ∧ Fr [d] S S')
    ⟨[], none, none, none, ?_, Nat.zero_le _, .nil, rfl, get_new, (h2.le (by simp; omega)).fr (Fr.app [] _ _) (by simp), (f1.trans f2).trans (Fr.app _ _ _)⟩ ?_ ?_
  · unfold rangeD
    rw [List.range_eq_range']
    have e : (1 + (m : Int) - 1).toNat = m - [].length (α := Nat × Nat) := by simp; omega
    rw [e]
    rfl
  · rintro x ys η S3 ⟨ps, o2, o7, o8, hr, hm, hg, rfl, hL, h3, f3⟩
    have hlt : ps.length < m := by
      rcases Nat.lt_or_ge ps.length m with q | q
      · exact q
      · rw [show m - ps.length = 0 by omega] at hr; cases hr
    rw [show m - ps.length = (m - (ps.length + 1)) + 1 by omega, List.range'_succ, List.map_cons] at hr
    obtain ⟨rfl, rfl⟩ := List.cons.inj hr
    refine ⟨_, rfl, ?_⟩
    have hl : ∀ z : D, ((ps.map pairD) ++ [z]).length < line := fun z => by
      simp only [List.length_append, List.length_map, List.length_cons, List.length_nil]
      exact Nat.lt_of_le_of_lt (show ps.length + 1 ≤ 101 by omega) (by decide)
    array_get_dec
    simp only [max2_int]
    array_get_dec
    have key : ∀ z : Int, 0 ≤ z → z ≤ ps.length → ∃ k : Nat, k ≤ ps.length ∧ some (D.int z) = some (D.int k) := fun z h0 h1 => ⟨z.toNat, by omega, by rw [Int.toNat_of_nonneg h0]⟩
    obtain ⟨k, hk, ek⟩ : ∃ k : Nat, k ≤ ps.length ∧ atI [D.int (1 + (ps.length : Int) - 1), D.int 0, D.int (if 1 + (ps.length : Int) - 2 > 0 then 1 + (ps.length : Int) - 2 else 0), D.int (if 1 + (ps.length : Int) - 3 > 0 then 1 + (ps.length : Int) - 3 else 0), D.int ((1 + (ps.length : Int)) / 2)] sh = some (D.int k) := by
      have e : sh = 0 ∨ sh = 1 ∨ sh = 2 ∨ sh = 3 ∨ sh = 4 := by omega
      rcases e with rfl | rfl | rfl | rfl | rfl
      · exact key _ (by omega) (by omega)
      · exact key _ (by omega) (by omega)
      · exact key _ (by split <;> omega) (by split <;> omega)
      · exact key _ (by split <;> omega) (by split <;> omega)
      · exact key _ (by omega) (by omega)
    have e1 : (1 + (ps.length : Int)) = ((ps.length + 1 : Nat) : Int) := by push_cast; omega
    have close : ∀ (S' : Store) (p : Nat × Nat) (z : D) (e7 e8 : Option D), z = pairD p → S'[S2.length]? = some (.list (ps.map pairD)) → Dr S' d (c + 2 + 3 * ((ps.length + 1 : Nat) : Int)) → Fr [d] S S' → Grown (ps ++ [p]) →
        ∃ d_4 S3, bmeth BM.append (D.ref S2.length) S' [z] = some (d_4, S3) ∧ ∃ ps_1, List.map (fun i : Nat => D.int (1 + i)) (List.range' (ps.length + 1) (m - (ps.length + 1))) = List.map (fun i : Nat => D.int (1 + i)) (List.range' ps_1.length (m - ps_1.length)) ∧ ps_1.length ≤ m ∧ Grown ps_1 ∧
          ∃ x x_1 x_2, [some (D.ref d), some (D.int b), some (D.int (1 + ps.length)), none, some (D.int (1 + m)), some (D.int sh), some (D.ref S2.length), e7, e8] = [some (D.ref d), some (D.int b), x, none, some (D.int (1 + m)), some (D.int sh), some (D.ref S2.length), x_1, x_2] ∧
            S3[S2.length]? = some (.list (ps_1.map pairD)) ∧ Dr S3 d (c + 2 + 3 * ps_1.length) ∧ Fr [d] S S3 := by
      intro S' p z e7 e8 hz g1 g2 g3 g4
      subst hz
      refine ⟨_, _, append_ref g1 (Nat.lt_of_lt_of_le (by simp) (Nat.le_of_lt (hl (pairD p)))), ps ++ [p], by simp, by simp; omega, g4, _, _, _, rfl, by rw [List.map_append]; exact get_set g1, ?_, g3.setNew (Nat.le_trans f1.1 f2.1)⟩
      exact (g2.le (by simp)).fr (Fr.set (ds := [S2.length]) (by simp)) (by simp; omega)
    refine ⟨by decide, _, ek, ?_⟩
    refine (t_next n d (c + 2 + 3 * ps.length) 4 S3 h3 (by omega) (by omega) (by omega)).mono fun r S4 q => ?_
    obtain ⟨w, rfl, w0, w1, h4, f4⟩ := q
    have hL4 := f4.get hL (by simp; omega)
    array_get_dec
    by_cases hw : 0 < w
    · simp only [if_pos hw, bmTy_ref hL4]
      array_get_dec
      refine (t_next n d _ 2 S4 h4 (by omega) (by omega) (by omega)).mono fun r S5 q => ?_
      obtain ⟨w2, rfl, _, _, h5, f5⟩ := q
      have hL5 := f5.get hL4 (by simp; omega)
      array_get_dec
      by_cases hw2 : w2 = 0
      · simp only [if_pos hw2]
        exact ⟨by decide, close S5 (k, ps.length + 1) _ _ _ (by rw [e1]; rfl) hL5 (h5.le (by push_cast; omega)) ((f3.trans f4).trans f5) (.fore hg hk)⟩
      · simp only [if_neg hw2]
        exact ⟨by decide, close S5 (ps.length + 1, k) _ _ _ (by rw [e1]; rfl) hL5 (h5.le (by push_cast; omega)) ((f3.trans f4).trans f5) (.back hg hk)⟩
    · simp only [if_neg hw]
      refine (t_next n d _ (1 + ps.length) S4 h4 (by omega) (by omega) (by omega)).mono fun r S5 q => ?_
      obtain ⟨w3, rfl, w30, w31, h5, f5⟩ := q
      obtain ⟨j, rfl⟩ := Int.eq_ofNat_of_zero_le w30
      have hL5 := f5.get hL4 (by simp; omega)
      simp only [bmTy_ref hL5]
      array_get_dec
      refine (t_next n d _ 2 S5 h5 (by omega) (by omega) (by omega)).mono fun r S6 q => ?_
      obtain ⟨w2, rfl, _, _, h6, f6⟩ := q
      have hL6 := f6.get hL5 (by simp; omega)
      array_get_dec
      by_cases hw2 : w2 = 0
      · simp only [if_pos hw2]
        exact ⟨by decide, close S6 (j, ps.length + 1) _ _ _ (by rw [e1]; rfl) hL6 (h6.le (by push_cast; omega)) (((f3.trans f4).trans f5).trans f6) (.fore hg (by omega))⟩
      · simp only [if_neg hw2]
        exact ⟨by decide, close S6 (ps.length + 1, j) _ _ _ (by rw [e1]; rfl) hL6 (h6.le (by push_cast; omega)) (((f3.trans f4).trans f5).trans f6) (.back hg (by omega))⟩
  · rintro η S3 ⟨ps, o2, o7, o8, hr, hm, hg, rfl, hL, h3, f3⟩
    have hlm : ps.length = m := by
      have := congrArg List.length hr
      simp at this
      omega
    array_get_dec
    simp only [len_ref hL]
    array_get_dec
    simp only [List.length_map]
    refine (t_next n d _ (ps.length + 1) S3 h3 (by omega) (by omega) (by omega)).mono fun r S4 q => ?_
    obtain ⟨w, rfl, w0, w1, h4, f4⟩ := q
    obtain ⟨j, rfl⟩ : ∃ j : Nat, w = (j : Int) := ⟨w.toNat, by omega⟩
    have hL4 := f4.get hL (by simp; omega)
    have hj : j ≤ (ps.map pairD).length := by simp; omega
    simp only [sl_ref hL4, cut_from hj, cut_to hj]
    array_get_dec
    rw [cut_from hj, cut_to hj]
    refine ⟨Nat.le_trans (m := 200) (by simp only [List.length_drop, List.length_take, List.length_map]; omega) (by decide), _, rfl, ps, hg, by omega, j, by omega, by rw [List.map_append, List.map_drop, List.map_take], h4.le (by omega), f3.trans f4⟩
end Mi
set_option Elab.async false
set_option linter.all false
namespace Mi
open PySem L2
theorem lc_loop {turn : D → M (Option D)} {n : Nat} {Q : Unit → Store → Prop} {E : D → Store → Prop} (I : List D → List D → Store → Prop) : ∀ {xs acc : List D} {S : Store}, I xs acc S → S[n]? = some (.list acc) →
    (∀ x ys acc S, I (x :: ys) acc S → S[n]? = some (.list acc) → acc.length < line ∧ Ok (turn x S) (fun r S' => S'[n]? = some (.list acc) ∧ match r with
      | none => I ys acc S'
      | some y => I ys (acc ++ [y]) (S'.set n (.list (acc ++ [y])))) nx) → (∀ acc S, I [] acc S → S[n]? = some (.list acc) → Q () S) → Ok (lcLoop turn n xs S) Q E
  | [], acc, S, h, hn, _, e => e acc S h hn
  | x :: xs, acc, S, h, hn, st, e => by
    unfold lcLoop
    rw [ok_bind, ok_calm]
    obtain ⟨hl, q⟩ := st x xs acc S h hn
    refine q.imp (fun r S' ⟨hn', q⟩ => ?_) (fun _ _ z => z.elim)
    cases r with
    | none => exact lc_loop I q hn' st e
    | some y =>
      show Ok ((push n y >>= fun _ => lcLoop turn n xs) S') Q E
      rw [ok_bind, ok_push]
      exact ⟨acc, hn', hl, lc_loop I q (get_set hn') st e⟩
/-- the whole comprehension, its list given up as a value -/
theorem lc_inv {P : Prog} {Φ : Call} {η : Env} {S : Store} {own : List Nat} {tg : Tg} {cond : List Mi.E} {elt : Mi.E} {xs : List D} {QD : D → Store → Prop} {E : D → Store → Prop} (I : List D → List D → Store → Prop) (h : I xs [] (S ++ [.list []]))
    (st : ∀ x ys acc S', I (x :: ys) acc S' → S'[S.length]? = some (.list acc) → acc.length < line ∧ Ok (lcT P Φ own tg cond elt η x S') (fun r S'' => S''[S.length]? = some (.list acc) ∧ match r with
      | none => I ys acc S''
      | some y => I ys (acc ++ [y]) (S''.set S.length (.list (acc ++ [y])))) nx)
    (e : ∀ acc S', I [] acc S' → S'[S.length]? = some (.list acc) → QD (.list acc) (S'.set S.length .dead)) :
    Ok (lcLoop (lcT P Φ own tg cond elt η) S.length xs (S ++ [.list []])) (fun _ S2 => Ok (lcEnd false S.length S2) QD E) E := by
  refine lc_loop I h get_new st fun acc S' hI hn => ?_
  show Ok (eff (freeze (.ref S.length)) S') QD E
  rw [ok_eff]
  refine ⟨.list acc, S'.set S.length .dead, ?_, e acc S' hI hn⟩
  unfold freeze
  simp only [hn]
theorem rng1_items {b : Int} (h3 : 0 ≤ b) (h4 : b < 2 ^ 24) : items .rng1 [.int b] = some (rangeD 0 b) := by
  show (if rangeOk 0 b then some (rangeD 0 b) else none) = _
  have h5 : (b - 0).toNat ≤ 2 ^ 24 := by omega
  rw [if_pos (by unfold rangeOk; simp only [decide_eq_true (show -(2 ^ 62) ≤ (0 : Int) by decide), decide_eq_true (show (0 : Int) < 2 ^ 62 by decide), decide_eq_true (show -(2 ^ 62) ≤ b by omega), decide_eq_true (show b < 2 ^ 62 by omega), decide_eq_true h5, Bool.and_self])]
theorem range0 (n : Nat) : rangeD 0 (n : Int) = (List.range n).map fun i : Nat => D.int i := by
  unfold rangeD
  rw [show ((n : Int) - 0).toNat = n by omega]
  congr 1
  funext i
  rw [Int.zero_add]
end Mi
set_option Elab.async false
set_option linter.all false
namespace Mi
open PySem L2
theorem pyd_int {i : Int} : pyd (.int i) = some (.int i) := by unfold pyd; rfl
theorem enc_int {i : Int} : encD (.int i) = .int i := by unfold encD; rw [pyd_int]; rfl
theorem sort_ints {l : List Nat} (hl : l.length ≤ line) : SortOk (l.map fun i : Nat => D.int i) := by
  have mem : ∀ d, d ∈ (l.map fun i : Nat => D.int i).map encD → ∃ i : Int, d = .int i := by
    intro d hd
    obtain ⟨x, hx, rfl⟩ := List.mem_map.mp hd
    obtain ⟨i, _, rfl⟩ := List.mem_map.mp hx
    exact ⟨_, enc_int⟩
  refine ⟨fun x hx => ?_, fun d hd d' hd' => ?_, .inr fun d hd => ?_, fun x hx => ?_, by simpa using hl⟩
  · obtain ⟨i, _, rfl⟩ := List.mem_map.mp hx
    exact ⟨_, pyd_int, rfl⟩
  · obtain ⟨i, rfl⟩ := mem d hd
    obtain ⟨j, rfl⟩ := mem d' hd'
    rfl
  · obtain ⟨i, rfl⟩ := mem d hd
    exact ⟨fun z => (by cases z), fun xs z => (by cases z)⟩
  · obtain ⟨i, _, rfl⟩ := List.mem_map.mp hx
    rw [enc_int]
    show (0 : Nat) ≤ 8
    decide
theorem sorted_nat {l : List Nat} {rev : Bool} (hl : l.length ≤ line) : ∃ m : List Nat, m.Perm l ∧ sortedD rev (l.map fun i : Nat => D.int i) = some (m.map fun i : Nat => D.int i) := by
  unfold sortedD
  rw [if_pos (sort_ints hl)]
  have p := List.mergeSort_perm (l.map fun i : Nat => D.int i) (PySem.W.dataLe rev encD)
  generalize (l.map fun i : Nat => D.int i).mergeSort (PySem.W.dataLe rev encD) = r at p ⊢
  let g : D → Nat := fun | .int i => i.toNat | _ => 0
  refine ⟨r.map g, ?_, ?_⟩
  · have q := p.map g
    rw [List.map_map] at q
    have e : (g ∘ fun i : Nat => D.int i) = id := by
      funext i
      show (i : Int).toNat = i
      omega
    rwa [e, List.map_id] at q
  · congr 1
    rw [List.map_map]
    refine (List.map_id r).symm.trans (List.map_congr_left fun x hx => ?_)
    obtain ⟨i, _, rfl⟩ := List.mem_map.mp (p.mem_iff.mp hx)
    show D.int i = D.int ((i : Int).toNat : Nat)
    congr 1
theorem sorted_ref {S : Store} {n : Nat} {xs : List D} (h : S[n]? = some (.list xs)) : bfn .sorted S [.ref n] = (sortedD false xs).map D.list := by
  show ((seqOf S (.ref n)).bind (sortedD false)).map D.list = _
  unfold seqOf
  rw [deref_ref h]
  rfl
def srt (l : List Nat) : List Nat := l.mergeSort fun a b => decide (a ≤ b)
theorem srt_perm (l : List Nat) : (srt l).Perm l := List.mergeSort_perm _ _
theorem srt_asc (l : List Nat) : (srt l).Pairwise (· ≤ ·) := by
  have h := List.pairwise_mergeSort (le := fun a b : Nat => decide (a ≤ b)) (fun a b c h1 h2 => by simp at h1 h2 ⊢; omega) (fun a b => by simp; omega) l
  exact h.imp fun h => by simpa using h
theorem srt_eq {l m : List Nat} (hp : m.Perm l) (hm : m.Pairwise (· ≤ ·)) : srt l = m :=
  ((srt_perm l).trans hp.symm).eq_of_pairwise (fun a b _ _ h1 h2 => Nat.le_antisymm h1 h2) (srt_asc l) hm
theorem le_natD (a b : Nat) : PySem.W.dataLe false encD (.int a) (.int b) = decide (a ≤ b) := by
  show (!PyProof.Rows.lexLt PyProof.Rows.itemOrd (PySem.W.keyToks (encD (.int b))) (PySem.W.keyToks (encD (.int a)))) = _
  rw [enc_int, enc_int]
  unfold PySem.W.keyToks PyProof.Rows.lexLt PyProof.Rows.lexLt
  show (!(decide ((b : Int) < (a : Int)) || (!decide ((a : Int) < (b : Int)) && false))) = _
  rw [Bool.and_false, Bool.or_false, ← decide_not]
  congr 1
  rw [eq_iff_iff]
  omega
theorem srt_spec {l : List Nat} (h : l.length ≤ line) : (srt l).Perm l ∧ sortedD false (l.map fun i : Nat => D.int i) = some ((srt l).map fun i : Nat => D.int i) := by
  refine ⟨srt_perm l, ?_⟩
  unfold sortedD
  rw [if_pos (sort_ints h)]
  unfold srt
  rw [List.map_mergeSort (s := PySem.W.dataLe false encD) (f := fun i : Nat => D.int i)]
  intro a _ b _
  exact (le_natD a b).symm
end Mi
set_option Elab.async false
set_option linter.all false
namespace Mi
open PySem L2
theorem pyds_nat : ∀ l : List Nat, pyds (l.map fun i : Nat => D.int i) = some (l.map fun i : Nat => PyData.int i)
  | [] => by unfold pyds; rfl
  | i :: l => by
    rw [List.map_cons]
    unfold pyds
    rw [pyd_int, pyds_nat l]
    rfl
theorem lay_nat : ∀ l : List Nat, PyData.canLayAll0 (l.map fun i : Nat => PyData.int i) = true ∧ PyData.depthAll (l.map fun i : Nat => PyData.int i) = 0
  | [] => ⟨rfl, rfl⟩
  | i :: l => by
    obtain ⟨h1, h2⟩ := lay_nat l
    rw [List.map_cons]
    unfold PyData.canLayAll0 PyData.depthAll
    rw [h1, h2]
    exact ⟨rfl, rfl⟩
theorem shaped_nat (l : List Nat) : SeqAt.shaped (.list (l.map fun i : Nat => PyData.int i)) = true := by
  obtain ⟨h1, h2⟩ := lay_nat l
  unfold SeqAt.shaped PyData.canLay0 PyData.depth
  rw [h1, h2]
  rfl
theorem pyS_ref {S : Store} {n : Nat} {l : List Nat} (h : S[n]? = some (.list (l.map fun i : Nat => D.int i))) : pyS S (.ref n) = some (.list (l.map fun i : Nat => PyData.int i)) := by
  unfold pyS
  rw [deref_ref h]
  unfold pyd
  rw [pyds_nat]
  rfl
theorem eq_nil {S : Store} {n : Nat} {l : List Nat} (h : S[n]? = some (.list (l.map fun i : Nat => D.int i))) : eqOp S (.ref n) (.list []) = some (decide (l = [])) := by
  rw [eq_of (pyS_ref h) (q := .list []) (by unfold pyS deref pyd pyds; rfl) (shaped_nat l) rfl]
  unfold PyData.eqv
  cases l with
  | nil => rfl
  | cons x r => rfl
/-- a dict by numbers -/
def nkv (f : Nat → D) (vs : List Nat) : List (Key × D) := vs.map fun v : Nat => ((Sum.inl (v : Int) : Key), f v)
theorem nkv_find (f : Nat → D) (w : Nat) : ∀ vs : List Nat, (nkv f vs).find? (fun q => decide (q.1 = (.inl (w : Int) : Key))) = if w ∈ vs then some (.inl (w : Int), f w) else none
  | [] => rfl
  | v :: vs => by
    unfold nkv
    rw [List.map_cons, List.find?_cons]
    by_cases h : v = w
    · subst h
      simp
    · have h2 : decide ((Sum.inl (v : Int) : Key) = .inl (w : Int)) = false := by
        refine decide_eq_false fun z => h ?_
        have := Sum.inl.inj z
        omega
      simp only [h2]
      have ih := nkv_find f w vs
      unfold nkv at ih
      rw [ih]
      simp [Ne.symm h]
theorem nkv_in {S : Store} {n w : Nat} {f : Nat → D} {vs : List Nat} (h : S[n]? = some (.dK (nkv f vs))) : inOp S (.int w) (.ref n) = some (decide (w ∈ vs)) := by
  unfold inOp isDict
  simp only [h]
  unfold dGet
  simp only [h]
  show some (Option.isSome (((nkv f vs).find? fun q => decide (q.1 = (.inl (w : Int) : Key))).map (·.2))) = _
  rw [nkv_find]
  by_cases hw : w ∈ vs <;> simp [hw]
theorem nkv_ix {S : Store} {n w : Nat} {f : Nat → D} {vs : List Nat} (h : S[n]? = some (.dK (nkv f vs))) (hw : w ∈ vs) : ixop S (.ref n) (.int w) = some (f w) := by
  rw [ix_refK h]
  show ((nkv f vs).find? fun q => decide (q.1 = (.inl (w : Int) : Key))).map (·.2) = _
  rw [nkv_find, if_pos hw]
  rfl
theorem nkv_set {S : Store} {n w : Nat} {f : Nat → D} {vs : List Nat} (h : S[n]? = some (.dK (nkv f vs))) (hw : w ∉ vs) (hl : vs.length < line) : setop (.ref n) (.int w) (f w) S = some (.none, S.set n (.dK (nkv f (vs ++ [w])))) := by
  unfold setop
  simp only [h]
  show (if (nkv f vs).length < line then some (D.none, S.set n (.dK (putL (nkv f vs) (.inl (w : Int)) (f w)))) else none) = _
  rw [if_pos (by unfold nkv; simpa using hl)]
  congr 3
  unfold putL
  rw [if_neg]
  · unfold nkv
    rw [List.map_append]
    rfl
  · intro z
    obtain ⟨q, hq, e⟩ := List.any_eq_true.mp z
    unfold nkv at hq
    obtain ⟨v, hv, rfl⟩ := List.mem_map.mp hq
    have := Sum.inl.inj (of_decide_eq_true e)
    have e2 : v = w := by omega
    exact hw (e2 ▸ hv)
theorem pop_front {S : Store} {n : Nat} {x : D} {xs : List D} (h : S[n]? = some (.list (x :: xs))) : bmeth .popAt (.ref n) S [.int 0] = some (x, S.set n (.list xs)) := by
  unfold bmeth
  simp only [h]
  rfl
theorem pop_end {S : Store} {n : Nat} {x : D} {xs : List D} (h : S[n]? = some (.list (xs ++ [x]))) : bmeth .pop (.ref n) S [] = some (x, S.set n (.list xs)) := by
  unfold bmeth
  simp only [h]
  simp
end Mi
set_option Elab.async false
set_option linter.all false
set_option maxRecDepth 100000
namespace Mi
open PySem L2 Tt
local macro_rules | `(tactic| array_get_dec) => `(tactic| simp only [wipeD, ok_exs, ok_exs0, go_next, go_ret, go_brk, go_cont, ok_sex, ok_ret, ok_set, ok_par, ok_seti, ok_seta, ok_site, ok_for, ok_pass, ok_brk, ok_cont, ok_v, ok_c, ok_g, ok_tup, ok_list, ok_mlist, ok_mdict, ok_mdictT, ok_edict, ok_bin, ok_mulm, ok_addm, ok_rngm, ok_neg, ok_cmp, ok_eqE, ok_cmp2, ok_isN, ok_isB, ok_not, ok_eite, ok_ix, ok_sl, ok_slm, ok_vals, ok_rev, ok_attr, ok_cattr, ok_call, ok_bc, ok_isi, ok_meth, ok_bm, ok_cm, ok_mk, ok_mkv, ok_mkx, ok_cs, ok_cmv, ok_lc2, ok_raise, ok_try, ok_fz, ok_lc, ok_evs0, ok_evs1, ok_evsS, ok_and, ok_or, ok_and1, ok_and2, ok_or1, ok_or2, ok_t0, ok_t1, ok_bind, ok_truth, b_add, b_sub, b_mul, b_fdiv, b_mod, b_pow, b_tup, b_list, ite_some, c_lt, c_le, c_gt, c_ge, c_eq, c_ne, eq_int, eq_str, Option.map_some, ix_list, ix_tup, len_list, len_tup, asg_n, asg_t, asgs_0, asgs_1, List.map_cons, List.map_nil, List.length_cons, List.length_nil, List.replicate_succ, List.replicate_zero, List.cons_append, List.nil_append, List.append_nil, Nat.reduceAdd, Nat.reduceSub, Nat.reduceLT, Nat.zero_add, Nat.lt_add_one, Nat.zero_lt_succ, Nat.succ_pos, List.set_cons_zero, List.set_cons_succ, List.getElem?_cons_zero, List.getElem?_cons_succ, Option.bind_some, Option.some.injEq, D.bool.injEq, D.int.injEq, exists_eq_left', exists_eq_left, exists_eq_right, exists_eq_right', exists_and_left, and_true, true_and, if_true, ne_eq, reduceCtorEq, not_false_eq_true, implies_true, if_pos, partE, exists_const, and_assoc, Prod.mk.injEq, if_false, Int.reduceToNat, Int.reducePow, Nat.reducePow, Int.reduceLT, Int.reduceLE, Int.reduceNeg, Int.reduceAdd, Int.reduceSub, Int.reduceMul, decide_eq_true_eq])
abbrev natD : Nat → D := fun i => D.int i
/-- the neighbours of i, in the order of the tracks -/
def rowOf : List (Nat × Nat) → Nat → List Nat
  | [], _ => []
  | (a, b) :: r, i => (if a = i then [b] else []) ++ (if b = i then [a] else []) ++ rowOf r i
theorem rowOf_app (p q : List (Nat × Nat)) (i : Nat) : rowOf (p ++ q) i = rowOf p i ++ rowOf q i := by
  induction p with
  | nil => rfl
  | cons x r ih =>
    obtain ⟨a, b⟩ := x
    simp only [List.cons_append, rowOf, ih, List.append_assoc]
theorem rowOf_cons {r : List (Nat × Nat)} {a b i v : Nat} : v ∈ rowOf ((a, b) :: r) i ↔ (a = i ∧ v = b) ∨ (b = i ∧ v = a) ∨ v ∈ rowOf r i := by
  show v ∈ (if a = i then [b] else []) ++ (if b = i then [a] else []) ++ rowOf r i ↔ _
  rw [List.mem_append, List.mem_append, or_assoc]
  by_cases h1 : a = i <;> by_cases h2 : b = i <;> simp [h1, h2]
theorem rowOf_mem {i v : Nat} : ∀ {p : List (Nat × Nat)}, v ∈ rowOf p i ↔ adjOf p i v
  | [] => by simp [rowOf, adjOf]
  | (a, b) :: r => by
    rw [rowOf_cons, rowOf_mem (p := r)]
    unfold adjOf
    simp only [List.mem_cons, Prod.mk.injEq]
    constructor
    · rintro (⟨rfl, rfl⟩ | ⟨rfl, rfl⟩ | h | h)
      · exact .inl (.inl ⟨rfl, rfl⟩)
      · exact .inr (.inl ⟨rfl, rfl⟩)
      · exact .inl (.inr h)
      · exact .inr (.inr h)
    · rintro ((⟨rfl, rfl⟩ | h) | (⟨rfl, rfl⟩ | h))
      · exact .inl ⟨rfl, rfl⟩
      · exact .inr (.inr (.inl h))
      · exact .inr (.inl ⟨rfl, rfl⟩)
      · exact .inr (.inr (.inr h))
theorem rowOf_len (p : List (Nat × Nat)) (i : Nat) : (rowOf p i).length ≤ 2 * p.length := by
  induction p with
  | nil => simp [rowOf]
  | cons x r ih =>
    obtain ⟨a, b⟩ := x
    simp only [rowOf, List.length_append, List.length_cons]
    split <;> split <;> simp <;> omega
/-- a row of empty cells is made: `[[] for _ in range(n)]` -/
def refs (B n : Nat) : List D := (List.range n).map fun i => D.ref (B + i)
theorem refs_at {B n i : Nat} (h : i < n) : atI (refs B n) (i : Int) = some (.ref (B + i)) := by
  rw [atI_nat]
  unfold refs
  rw [List.getElem?_map, List.getElem?_range h]
  rfl
theorem rows_made {P : Prog} {Φ : Call} {η : Env} {S : Store} {x : Nat} {n : Nat} (hx : x < η.length) (hn : n < 1000) {QD : D → Store → Prop} {E : D → Store → Prop}
    (e : ∀ S', S'.length = S.length + 1 + n → (∀ i, i < n → S'[S.length + 1 + i]? = some (.list [])) → Fr [] S S' → QD (.list (refs (S.length + 1) n)) S') :
    Ok (lcLoop (lcT P Φ [x] (.n x) [] (.mlist []) η) S.length (rangeD 0 n) (S ++ [.list []])) (fun _ S2 => Ok (lcEnd false S.length S2) QD E) E := by
  refine lc_inv (fun rest acc S' => ∃ k, k ≤ n ∧ rest = (List.range' k (n - k)).map natD ∧ acc = refs (S.length + 1) k ∧ S'.length = S.length + 1 + k ∧ (∀ i, i < k → S'[S.length + 1 + i]? = some (.list [])) ∧ Fr [] S S')
    ⟨0, Nat.zero_le _, by rw [range0, List.range_eq_range']; rfl, rfl, by simp, fun i hi => absurd hi (Nat.not_lt_zero _), Fr.app _ _ _⟩ ?_ ?_
  · rintro y ys acc S' ⟨k, hk, hr, rfl, hl, hc, f⟩ hacc
    have hlt : k < n := by
      rcases Nat.lt_or_ge k n with q | q
      · exact q
      · rw [show n - k = 0 by omega] at hr; cases hr
    rw [show n - k = (n - (k + 1)) + 1 by omega, List.range'_succ, List.map_cons] at hr
    obtain ⟨rfl, rfl⟩ := List.cons.inj hr
    refine ⟨by unfold refs; rw [List.length_map, List.length_range]; exact Nat.lt_of_lt_of_le (show k < 1000 by omega) (by decide), ?_⟩
    rw [ok_lcT]
    refine ⟨_, by unfold asg wipeD wipeD; rw [if_pos (by simpa using hx)], ?_⟩
    array_get_dec
    refine ⟨Nat.zero_le _, by rw [List.getElem?_append_left (by omega)]; exact hacc, k + 1, by omega, rfl, ?_, by simp; omega, fun i hi => ?_, (f.trans (Fr.app _ _ _)).setNew (Nat.le_refl _)⟩
    · unfold refs
      rw [List.range_succ, List.map_append, hl]
      rfl
    · rw [get_ne (by omega)]
      rcases Nat.lt_or_ge i k with q | q
      · rw [List.getElem?_append_left (by omega)]
        exact hc i q
      · rw [show S.length + 1 + i = S'.length by omega]
        exact get_new
  · rintro acc S' ⟨k, hk, hr, rfl, hl, hc, f⟩ hacc
    have hkn : k = n := by
      have := congrArg List.length hr
      simp at this
      omega
    subst hkn
    exact e _ (by simpa using hl) (fun i hi => by rw [get_ne (by omega)]; exact hc i hi) (f.setNew (Nat.le_refl _))
end Mi
set_option Elab.async false
set_option linter.all false
set_option maxRecDepth 100000
namespace Mi
open PySem L2 Tt
local macro_rules | `(tactic| array_get_dec) => `(tactic| simp only [wipeD, ok_exs, ok_exs0, go_next, go_ret, go_brk, go_cont, ok_sex, ok_ret, ok_set, ok_par, ok_seti, ok_seta, ok_site, ok_for, ok_pass, ok_brk, ok_cont, ok_v, ok_c, ok_g, ok_tup, ok_list, ok_mlist, ok_mdict, ok_mdictT, ok_edict, ok_bin, ok_mulm, ok_addm, ok_rngm, ok_neg, ok_cmp, ok_eqE, ok_cmp2, ok_isN, ok_isB, ok_not, ok_eite, ok_ix, ok_sl, ok_slm, ok_vals, ok_rev, ok_attr, ok_cattr, ok_call, ok_bc, ok_isi, ok_meth, ok_bm, ok_cm, ok_mk, ok_mkv, ok_mkx, ok_cs, ok_cmv, ok_lc2, ok_raise, ok_try, ok_fz, ok_lc, ok_evs0, ok_evs1, ok_evsS, ok_and, ok_or, ok_and1, ok_and2, ok_or1, ok_or2, ok_t0, ok_t1, ok_bind, ok_truth, b_add, b_sub, b_mul, b_fdiv, b_mod, b_pow, b_tup, b_list, ite_some, c_lt, c_le, c_gt, c_ge, c_eq, c_ne, eq_int, eq_str, Option.map_some, ix_list, ix_tup, len_list, len_tup, asg_n, asg_t, asgs_0, asgs_1, List.map_cons, List.map_nil, List.length_cons, List.length_nil, List.replicate_succ, List.replicate_zero, List.cons_append, List.nil_append, List.append_nil, Nat.reduceAdd, Nat.reduceSub, Nat.reduceLT, Nat.zero_add, Nat.lt_add_one, Nat.zero_lt_succ, Nat.succ_pos, List.set_cons_zero, List.set_cons_succ, List.getElem?_cons_zero, List.getElem?_cons_succ, Option.bind_some, Option.some.injEq, D.bool.injEq, D.int.injEq, exists_eq_left', exists_eq_left, exists_eq_right, exists_eq_right', exists_and_left, and_true, true_and, if_true, ne_eq, reduceCtorEq, not_false_eq_true, implies_true, if_pos, partE, exists_const, and_assoc, Prod.mk.injEq, if_false, Int.reduceToNat, Int.reducePow, Nat.reducePow, Int.reduceLT, Int.reduceLE, Int.reduceNeg, Int.reduceAdd, Int.reduceSub, Int.reduceMul, decide_eq_true_eq])
theorem rows_filled {P : Prog} {Φ : Call} {η : Env} {S S0 : Store} {B n f o t : Nat} {qs : List (Nat × Nat)} {Q : Fl → Env → Store → Prop} {E : D → Env → Store → Prop} (hf : η[f]? = some (some (.list (refs B n)))) (hfo : f ≠ o) (hft : f ≠ t) (hot : o ≠ t)
    (ho : o < η.length) (ht : t < η.length) (hq : ∀ p ∈ qs, p.1 < n ∧ p.2 < n ∧ p.1 ≠ p.2) (hl : qs.length ≤ 200) (hF : Fr [] S0 S) (hB : S0.length ≤ B) (hc : ∀ i, i < n → S[B + i]? = some (.list []))
    (e : ∀ x y S', (∀ i, i < n → S'[B + i]? = some (.list ((rowOf qs i).map natD))) → S'.length = S.length → Fr [] S0 S' → (∀ m, m < S.length → (m < B ∨ B + n ≤ m) → S'[m]? = S[m]?) → Q .next ((η.set o x).set t y) S') :
    OkX (forX (.t [.n o, .n t]) (fun η S => exs P Φ [.ex (.bm .append (.ix (.v f) (.v o)) [(.v t)]), .ex (.bm .append (.ix (.v f) (.v t)) [(.v o)])] η S) (qs.map pairD) η S) Q E := by
  refine for_inv (fun rest η' S' => ∃ ps rs x y, qs = ps ++ rs ∧ rest = rs.map pairD ∧ η' = (η.set o x).set t y ∧ (∀ i, i < n → S'[B + i]? = some (.list ((rowOf ps i).map natD))) ∧ S'.length = S.length ∧ Fr [] S0 S' ∧ ∀ m, m < S.length → (m < B ∨ B + n ≤ m) → S'[m]? = S[m]?)
    ⟨[], qs, η[o], η[t], rfl, rfl, by simp, hc, rfl, hF, fun _ _ _ => rfl⟩ ?_ ?_
  · rintro z ys η' S' ⟨ps, rs, x, y, hqs, hr, rfl, hrow, hlen, hfr, hk⟩
    cases rs with
    | nil => cases hr
    | cons p rs =>
      obtain ⟨a, b⟩ := p
      obtain ⟨rfl, rfl⟩ := List.cons.inj hr
      obtain ⟨ha, hb, hab⟩ := hq (a, b) (by rw [hqs]; simp)
      simp only at ha hb hab
      have eη : asg (.t [.n o, .n t]) (pairD (a, b)) ((η.set o x).set t y) = some ((η.set o (some (.int a))).set t (some (.int b))) := by
        unfold pairD
        simp only [asg, asgs, List.length_set, if_pos ho, if_pos ht, Option.bind_some]
        congr 1
        rw [show ((η.set o x).set t y).set o (some (D.int a)) = (η.set o (some (D.int a))).set t y from by rw [List.set_comm _ _ hot.symm, List.set_set], List.set_set]
      refine ⟨_, eη, ?_⟩
      have g1 : ((η.set o (some (D.int a))).set t (some (D.int b)))[f]? = some (some (.list (refs B n))) := by
        rw [List.getElem?_set_ne hft.symm, List.getElem?_set_ne hfo.symm]; exact hf
      have g2 : ((η.set o (some (D.int a))).set t (some (D.int b)))[o]? = some (some (.int a)) := by
        rw [List.getElem?_set_ne hot.symm, List.getElem?_set_self ho]
      have g3 : ((η.set o (some (D.int a))).set t (some (D.int b)))[t]? = some (some (.int b)) := by
        rw [List.getElem?_set_self (by simpa using ht)]
      have c1 := hrow a ha
      have c2 := hrow b hb
      have len : ∀ i, ((rowOf ps i).map natD).length < line := fun i => by
        rw [List.length_map]
        have := rowOf_len ps i
        have h2 : ps.length ≤ 200 := by rw [hqs, List.length_append] at hl; omega
        exact Nat.lt_of_le_of_lt (show _ ≤ 400 by omega) (by decide)
      generalize hη : ((η.set o (some (D.int a))).set t (some (D.int b))) = η2 at g1 g2 g3
      array_get_dec
      simp only [g1, g2, g3]
      array_get_dec
      simp only [refs_at ha, refs_at hb]
      array_get_dec
      have c3 : (S'.set (B + a) (.list ((rowOf ps a).map natD ++ [.int b])))[B + b]? = some (.list ((rowOf ps b).map natD)) := by
        rw [get_ne (by omega)]; exact c2
      refine ⟨bmTy_ref c1, _, _, append_ref c1 (len a), ?_⟩
      refine ⟨bmTy_ref c3, _, _, append_ref c3 (len b), ?_⟩
      refine ⟨ps ++ [(a, b)], rs, by rw [hqs]; simp, rfl, some (.int a), some (.int b), hη.symm, fun i hi => ?_, by simpa using hlen, (hfr.setNew (by omega)).setNew (by omega), fun m hm hd => ?_⟩
      · rw [rowOf_app]
        show _ = some (Cell.list (((rowOf ps i) ++ ((if a = i then [b] else []) ++ (if b = i then [a] else []) ++ [])).map natD))
        by_cases h1 : a = i
        · subst h1
          rw [get_ne (by omega), get_set c1]
          simp [Ne.symm hab]
        · by_cases h2 : b = i
          · subst h2
            rw [get_set c3]
            simp [hab]
          · rw [get_ne (by omega), get_ne (by omega), hrow i hi]
            simp [h1, h2]
      · rw [get_ne (by omega), get_ne (by omega)]
        exact hk m hm hd
  · rintro η' S' ⟨ps, rs, x, y, hqs, hr, rfl, hrow, hlen, hfr, hk⟩
    cases rs with
    | nil =>
      rw [List.append_nil] at hqs
      subst hqs
      exact e x y S' hrow hlen hfr hk
    | cons p rs => cases hr
theorem row_line {qs : List (Nat × Nat)} (hl : qs.length ≤ 200) (i : Nat) : (rowOf qs i).length ≤ line := Nat.le_trans (rowOf_len qs i) (Nat.le_trans (show 2 * qs.length ≤ 400 by omega) (by decide))
theorem nodup_len : ∀ (n : Nat) (l : List Nat), l.Nodup → (∀ x ∈ l, x < n) → l.length ≤ n
  | 0, l, _, h => by
    cases l with
    | nil => exact Nat.le_refl _
    | cons x r => exact absurd (h x (by simp)) (Nat.not_lt_zero _)
  | n + 1, l, hd, h => by
    have h1 := nodup_len n (l.filter fun x => x != n) (hd.filter _) fun x hx => by
      obtain ⟨h1, h2⟩ := List.mem_filter.mp hx
      have := h x h1
      simp at h2
      omega
    have h2 : l.length ≤ (l.filter fun x => x != n).length + 1 := by
      clear h h1
      induction l with
      | nil => simp
      | cons x r ih =>
        obtain ⟨hx, hr⟩ := List.nodup_cons.mp hd
        by_cases e : x = n
        · subst e
          have e2 : r.filter (fun y => y != x) = r := List.filter_eq_self.mpr fun y hy => by
            simp
            intro z
            exact hx (z ▸ hy)
          rw [List.filter_cons_of_neg (by simp), e2]
          simp
        · rw [List.filter_cons_of_pos (by simpa using e)]
          have := ih hr
          simp
          omega
    omega
end Mi
set_option Elab.async false
set_option linter.all false
namespace Mi
open PySem L2
theorem Grown.lt {ps : List (Nat × Nat)} (h : Grown ps) : ∀ p ∈ ps, p.1 < ps.length + 1 ∧ p.2 < ps.length + 1 ∧ p.1 ≠ p.2 := by
  induction h with
  | nil => intro p hp; simp at hp
  | @fore ps b hg hb ih =>
    intro p hp
    rw [List.length_append]
    rcases List.mem_append.mp hp with h | h
    · obtain ⟨h1, h2, h3⟩ := ih p h
      simp; omega
    · have : p = (b, ps.length + 1) := by simpa using h
      subst this
      simp; omega
  | @back ps b hg hb ih =>
    intro p hp
    rw [List.length_append]
    rcases List.mem_append.mp hp with h | h
    · obtain ⟨h1, h2, h3⟩ := ih p h
      simp; omega
    · have : p = (ps.length + 1, b) := by simpa using h
      subst this
      simp; omega
theorem Grown.row {ps : List (Nat × Nat)} (h : Grown ps) (i : Nat) : (rowOf ps i).Nodup := by
  induction h with
  | nil => exact List.nodup_nil
  | @fore ps b hg hb ih =>
    have hlt := Grown.lt hg
    have hv : ∀ v, v ∈ rowOf ps i → v < ps.length + 1 ∧ i < ps.length + 1 := fun v hv => by
      rcases rowOf_mem.mp hv with h | h
      · have := hlt _ h; exact ⟨this.2.1, this.1⟩
      · have := hlt _ h; exact ⟨this.1, this.2.1⟩
    rw [rowOf_app]
    refine List.nodup_append.mpr ⟨ih, ?_, fun x hx y hy z => ?_⟩
    · simp only [rowOf]
      by_cases h1 : b = i <;> by_cases h2 : ps.length + 1 = i <;> simp [h1, h2]
      omega
    · subst z
      obtain ⟨h1, h2⟩ := hv x hx
      rcases rowOf_cons.mp hy with ⟨q1, q2⟩ | ⟨q1, q2⟩ | q
      · omega
      · omega
      · simp [rowOf] at q
  | @back ps b hg hb ih =>
    have hlt := Grown.lt hg
    have hv : ∀ v, v ∈ rowOf ps i → v < ps.length + 1 ∧ i < ps.length + 1 := fun v hv => by
      rcases rowOf_mem.mp hv with h | h
      · have := hlt _ h; exact ⟨this.2.1, this.1⟩
      · have := hlt _ h; exact ⟨this.1, this.2.1⟩
    rw [rowOf_app]
    refine List.nodup_append.mpr ⟨ih, ?_, fun x hx y hy z => ?_⟩
    · simp only [rowOf]
      by_cases h1 : b = i <;> by_cases h2 : ps.length + 1 = i <;> simp [h1, h2]
      omega
    · subst z
      obtain ⟨h1, h2⟩ := hv x hx
      rcases rowOf_cons.mp hy with ⟨q1, q2⟩ | ⟨q1, q2⟩ | q
      · omega
      · omega
      · simp [rowOf] at q
theorem turn_perm (ps : List (Nat × Nat)) (k : Nat) : (ps.drop k ++ ps.take k).Perm ps := List.perm_append_comm.trans (by rw [List.take_append_drop])
theorem adj_perm {p q : List (Nat × Nat)} (h : p.Perm q) : adjOf p = adjOf q := by
  funext u v
  unfold adjOf
  rw [h.mem_iff, h.mem_iff]
theorem row_turn (ps : List (Nat × Nat)) (k i : Nat) : (rowOf (ps.drop k ++ ps.take k) i).Perm (rowOf ps i) := by
  rw [rowOf_app]
  refine List.perm_append_comm.trans ?_
  rw [← rowOf_app, List.take_append_drop]
end Mi
set_option Elab.async false
set_option linter.all false
set_option maxRecDepth 100000
namespace Mi
open PySem L2 Tt
local macro_rules | `(tactic| array_get_dec) => `(tactic| simp only [wipeD, ok_exs, ok_exs0, go_next, go_ret, go_brk, go_cont, ok_sex, ok_ret, ok_set, ok_par, ok_seti, ok_seta, ok_site, ok_for, ok_pass, ok_brk, ok_cont, ok_v, ok_c, ok_g, ok_tup, ok_list, ok_mlist, ok_mdict, ok_mdictT, ok_edict, ok_bin, ok_mulm, ok_addm, ok_rngm, ok_neg, ok_cmp, ok_eqE, ok_cmp2, ok_isN, ok_isB, ok_not, ok_eite, ok_ix, ok_sl, ok_slm, ok_vals, ok_rev, ok_attr, ok_cattr, ok_call, ok_bc, ok_isi, ok_meth, ok_bm, ok_cm, ok_mk, ok_mkv, ok_mkx, ok_cs, ok_cmv, ok_lc2, ok_raise, ok_try, ok_fz, ok_lc, ok_evs0, ok_evs1, ok_evsS, ok_and, ok_or, ok_and1, ok_and2, ok_or1, ok_or2, ok_t0, ok_t1, ok_bind, ok_truth, b_add, b_sub, b_mul, b_fdiv, b_mod, b_pow, b_tup, b_list, ite_some, c_lt, c_le, c_gt, c_ge, c_eq, c_ne, eq_int, eq_str, Option.map_some, ix_list, ix_tup, len_list, len_tup, asg_n, asg_t, asgs_0, asgs_1, List.map_cons, List.map_nil, List.length_cons, List.length_nil, List.replicate_succ, List.replicate_zero, List.cons_append, List.nil_append, List.append_nil, Nat.reduceAdd, Nat.reduceSub, Nat.reduceLT, Nat.zero_add, Nat.lt_add_one, Nat.zero_lt_succ, Nat.succ_pos, List.set_cons_zero, List.set_cons_succ, List.getElem?_cons_zero, List.getElem?_cons_succ, Option.bind_some, Option.some.injEq, D.bool.injEq, D.int.injEq, exists_eq_left', exists_eq_left, exists_eq_right, exists_eq_right', exists_and_left, and_true, true_and, if_true, ne_eq, reduceCtorEq, not_false_eq_true, implies_true, if_pos, partE, exists_const, and_assoc, Prod.mk.injEq, if_false, Int.reduceToNat, Int.reducePow, Nat.reducePow, Int.reduceLT, Int.reduceLE, Int.reduceNeg, Int.reduceAdd, Int.reduceSub, Int.reduceMul, decide_eq_true_eq])
/-- numbers by station -/
def tab (n : Nat) (f : Nat → Nat) : List D := (List.range n).map fun v => natD (f v)
def up (f : Nat → Nat) (w x : Nat) : Nat → Nat := fun v => if v = w then x else f v
theorem tab_at {n w : Nat} {f : Nat → Nat} (h : w < n) : atI (tab n f) (w : Int) = some (.int (f w)) := by
  rw [atI_nat]
  unfold tab
  rw [List.getElem?_map, List.getElem?_range h]
  rfl
theorem tab_ix {S : Store} {c n w : Nat} {f : Nat → Nat} (e : S[c]? = some (.list (tab n f))) (h : w < n) : ixop S (.ref c) (.int w) = some (.int (f w)) := (ix_refL e).trans (tab_at h)
theorem tab_set {S : Store} {c n w x : Nat} {f : Nat → Nat} (e : S[c]? = some (.list (tab n f))) (h : w < n) : setop (.ref c) (.int w) (.int x) S = some (.none, S.set c (.list (tab n (up f w x)))) := by
  have hl : (tab n f).length = n := by unfold tab; simp
  have hi : ixN (tab n f).length (w : Int) = some w := by
    unfold ixN
    rw [if_pos (by omega), if_pos (by rw [hl]; omega)]
    rfl
  unfold setop
  simp only [e, hi]
  congr 4
  refine List.ext_getElem? fun i => ?_
  unfold tab up
  rw [List.getElem?_set]
  by_cases hw : w = i
  · subst hw
    rw [if_pos rfl, if_pos (by simpa using h), List.getElem?_map, List.getElem?_range h]
    simp
  · rw [if_neg hw, List.getElem?_map, List.getElem?_map]
    rcases Nat.lt_or_ge i n with q | q
    · rw [List.getElem?_range q]
      simp [Ne.symm hw]
    · rw [List.getElem?_eq_none (by simpa using q)]
      rfl
theorem tab_rep {n x : Nat} {S : Store} (hn : n < 1000) : mulL S (.list [.int x]) (.int n) = some (tab n fun _ => x) := by
  unfold mulL
  show (some [D.int (x : Int)]).bind _ = _
  rw [Option.bind_some, if_pos ⟨by omega, by omega, by simp; exact Nat.le_trans (Nat.le_of_lt hn) (by decide)⟩]
  congr 1
  unfold tab
  rw [show ((n : Int)).toNat = n by omega]
  clear hn
  induction n with
  | zero => rfl
  | succ n ih =>
    rw [List.replicate_succ', List.flatten_append, ih, List.range_succ, List.map_append]
    rfl
end Mi
set_option Elab.async false
set_option linter.all false
set_option maxRecDepth 100000
namespace Mi
open PySem L2 Tt
local macro_rules | `(tactic| array_get_dec) => `(tactic| simp only [wipeD, ok_exs, ok_exs0, go_next, go_ret, go_brk, go_cont, ok_sex, ok_ret, ok_set, ok_par, ok_seti, ok_seta, ok_site, ok_for, ok_pass, ok_brk, ok_cont, ok_v, ok_c, ok_g, ok_tup, ok_list, ok_mlist, ok_mdict, ok_mdictT, ok_edict, ok_bin, ok_mulm, ok_addm, ok_rngm, ok_neg, ok_cmp, ok_eqE, ok_cmp2, ok_isN, ok_isB, ok_not, ok_eite, ok_ix, ok_sl, ok_slm, ok_vals, ok_rev, ok_attr, ok_cattr, ok_call, ok_bc, ok_isi, ok_meth, ok_bm, ok_cm, ok_mk, ok_mkv, ok_mkx, ok_cs, ok_cmv, ok_lc2, ok_raise, ok_try, ok_fz, ok_lc, ok_evs0, ok_evs1, ok_evsS, ok_and, ok_or, ok_and1, ok_and2, ok_or1, ok_or2, ok_t0, ok_t1, ok_bind, ok_truth, b_add, b_sub, b_mul, b_fdiv, b_mod, b_pow, b_tup, b_list, ite_some, c_lt, c_le, c_gt, c_ge, c_eq, c_ne, eq_int, eq_str, Option.map_some, ix_list, ix_tup, len_list, len_tup, asg_n, asg_t, asgs_0, asgs_1, List.map_cons, List.map_nil, List.length_cons, List.length_nil, List.replicate_succ, List.replicate_zero, List.cons_append, List.nil_append, List.append_nil, Nat.reduceAdd, Nat.reduceSub, Nat.reduceLT, Nat.zero_add, Nat.lt_add_one, Nat.zero_lt_succ, Nat.succ_pos, List.set_cons_zero, List.set_cons_succ, List.getElem?_cons_zero, List.getElem?_cons_succ, Option.bind_some, Option.some.injEq, D.bool.injEq, D.int.injEq, exists_eq_left', exists_eq_left, exists_eq_right, exists_eq_right', exists_and_left, and_true, true_and, if_true, ne_eq, reduceCtorEq, not_false_eq_true, implies_true, if_pos, partE, exists_const, and_assoc, Prod.mk.injEq, if_false, Int.reduceToNat, Int.reducePow, Nat.reducePow, Int.reduceLT, Int.reduceLE, Int.reduceNeg, Int.reduceAdd, Int.reduceSub, Int.reduceMul, decide_eq_true_eq])
noncomputable def rowT (qs : List (Nat × Nat)) (i : Nat) : D := .tup ((srt (rowOf qs i)).map natD)
theorem all_seen {n : Nat} {adj : Nat → Nat → Prop} {nx dp : Nat → Nat → Nat} {s : Nat} {l : List Nat} (T : IsTree n adj nx dp) (hs : s < n) (hm : s ∈ l) (hc : ∀ u ∈ l, ∀ w, adj u w → w ∈ l) : ∀ k v, dp s v = k → v < n → v ∈ l := by
  intro k
  induction k with
  | zero =>
    intro v hk hv
    rcases Nat.decEq v s with e | e
    · have := T.dpnx s v hs hv e; omega
    · rw [e]; exact hm
  | succ k ih =>
    intro v hk hv
    rcases Nat.decEq v s with e | e
    · have h1 := T.dpnx s v hs hv e
      exact hc _ (ih (nx s v) (by omega) (T.nxlt s v hs hv)) v (T.sym _ _ (T.nxadj s v hs hv e))
    · rw [e]; exact hm
theorem freeze_ref {S : Store} {n : Nat} {xs : List D} (h : S[n]? = some (.list xs)) : freeze (.ref n) S = some (.list xs, S.set n .dead) := by
  unfold freeze
  simp only [h]
open IsTree in
theorem t_hops (n0 : Nat) (S : Store) (qs : List (Nat × Nat)) {nx dp : Nat → Nat → Nat} (T : IsTree (qs.length + 1) (adjOf qs) nx dp) (hl : qs.length ≤ 100) (hrn : ∀ i, (rowOf qs i).Nodup) (s : Nat) (hs : s < qs.length + 1) :
    Ok (callM Tt.T.prog (run Tt.T.prog (n0 + 1)) i_hops_from [.list ((List.range (qs.length + 1)).map (rowT qs)), .int s] [] [] S) (fun r S' => r = .tup [.list (tab (qs.length + 1) (dp s)), .list (tab (qs.length + 1) (nx s))] ∧ Fr [] S S') Mi.nx := by
  generalize hd : D.list ((List.range (qs.length + 1)).map (rowT qs)) = dd
  refine ok_fn (fn := f_hops_from) (ds := [dd, .int s]) rfl rfl ?_
  subst hd
  unfold f_hops_from
  array_get_dec
  have e0 : ((List.map (rowT qs) (List.range (qs.length + 1))).length : Int) = ((qs.length + 1 : Nat) : Int) := by simp
  simp only [e0]
  refine ⟨by decide, _, tab_rep (x := 0) (by omega), by decide, _, tab_rep (by omega), by decide, ?_⟩
  simp only [List.length_append, List.length_cons, List.length_nil, ok_while]
  refine while_inv (fun k η S' => ∃ dn q fa ba o5 o6, k = qs.length + 1 - dn.length ∧ (dn ++ q).Nodup ∧ s ∈ dn ++ q ∧ (∀ v ∈ dn ++ q, v < qs.length + 1) ∧ (∀ v ∈ dn ++ q, v ≠ s → nx s v ∈ dn) ∧ (∀ u ∈ dn, ∀ w, adjOf qs u w → w ∈ dn ++ q) ∧
    (∀ v ∈ dn ++ q, fa v = dp s v ∧ ba v = nx s v) ∧
    η = [some (D.list ((List.range (qs.length + 1)).map (rowT qs))), some (D.int s), some (D.ref (S.length + 1 + 1)), some (D.ref S.length), some (D.ref (S.length + 1)), o5, o6] ∧ S'[S.length]? = some (.list (tab (qs.length + 1) fa)) ∧ S'[S.length + 1]? = some (.list (tab (qs.length + 1) ba)) ∧ S'[S.length + 1 + 1]? = some (.list (q.map natD)) ∧ Fr [] S S')
    (k := qs.length + 1) (by omega) ⟨[], [s], fun _ => 0, fun _ => s, none, none, by simp, by simp, by simp, by simpa using hs, ?_, by simp, ?_, rfl, ?_, ?_, ?_, ?_⟩ ?_
  · intro v hv hne
    exact absurd (by simpa using hv) hne
  · intro v hv
    have : v = s := by simpa using hv
    subst this
    exact ⟨(T.dps v hs).symm, (T.nxs v hs).symm⟩
  · simp
  · simp
  · rw [List.getElem?_append_right (by simp)]
    simp
  · exact ⟨by simp, fun m hm _ => by simp [List.getElem?_append_left, hm, Nat.lt_succ_of_lt]⟩
  · rintro k η S' ⟨dn, q, fa, ba, o5, o6, rfl, hnd, hsm, hlt, hnx, hcl, hfb, rfl, hf, hb, hq, hfr⟩
    try array_get_dec
    simp only [eq_nil hq]
    try array_get_dec
    refine ⟨Nat.zero_le _, ?_⟩
    rcases List.eq_nil_or_concat q with rfl | ⟨q', u, rfl⟩
    · rw [if_neg (by simp)]
      try array_get_dec
      have hall := fun v hv => all_seen T hs hsm (fun x hx w hw => hcl x (by simpa using hx) w hw) (dp s v) v rfl hv
      have ef : tab (qs.length + 1) fa = tab (qs.length + 1) (dp s) := List.map_congr_left fun v hv => by rw [(hfb v (hall v (by simpa using hv))).1]
      have eb : tab (qs.length + 1) ba = tab (qs.length + 1) (nx s) := List.map_congr_left fun v hv => by rw [(hfb v (hall v (by simpa using hv))).2]
      exact ⟨_, _, freeze_ref hf, _, _, freeze_ref (by rw [get_ne (by omega)]; exact hb), by decide, by rw [ef, eb], (hfr.setNew (Nat.le_refl _)).setNew (by omega)⟩
    · rw [if_pos (by simp)]
      rw [List.concat_eq_append] at *
      have hu : u < qs.length + 1 := hlt u (by simp)
      have hl2 := nodup_len (qs.length + 1) _ hnd hlt
      simp only [List.length_append, List.length_cons, List.length_nil] at hl2
      rw [List.map_append] at hq
      refine ⟨bmTy_ref hq, _, _, pop_end hq, rowT qs u, by rw [show natD u = D.int u from rfl, ix_list, atI_nat, List.getElem?_map, List.getElem?_range hu]; rfl, _, rfl, ?_⟩
      obtain ⟨sp, _⟩ := srt_spec (row_line (qs := qs) (by omega) u)
      have hrow : (srt (rowOf qs u)).Nodup := sp.nodup_iff.mpr (hrn u)
      refine for_inv (fun rest η2 S2 => ∃ pre rs ps fa ba o, rest = rs.map natD ∧ srt (rowOf qs u) = pre ++ rs ∧ (∀ v ∈ ps, v ∈ pre ∧ nx s v = u ∧ v < qs.length + 1) ∧ (∀ w ∈ pre, w ∈ (dn ++ [u]) ++ (q' ++ ps)) ∧ ((dn ++ [u]) ++ (q' ++ ps)).Nodup ∧
        (∀ v ∈ (dn ++ [u]) ++ (q' ++ ps), fa v = dp s v ∧ ba v = nx s v) ∧ η2 = [some (D.list ((List.range (qs.length + 1)).map (rowT qs))), some (D.int s), some (D.ref (S.length + 1 + 1)), some (D.ref S.length), some (D.ref (S.length + 1)), some (D.int u), o] ∧
        S2[S.length]? = some (.list (tab (qs.length + 1) fa)) ∧ S2[S.length + 1]? = some (.list (tab (qs.length + 1) ba)) ∧ S2[S.length + 1 + 1]? = some (.list ((q' ++ ps).map natD)) ∧ Fr [] S S2)
        ⟨[], srt (rowOf qs u), [], fa, ba, o6, rfl, rfl, by simp, by simp, ?_, ?_, rfl, by rw [get_ne (by omega)]; exact hf, by rw [get_ne (by omega)]; exact hb, by rw [List.append_nil]; exact get_set hq, hfr.setNew (by omega)⟩ ?_ ?_
      · have p : ((dn ++ [u]) ++ (q' ++ [])).Perm (dn ++ (q' ++ [u])) := by
          rw [List.append_nil, List.append_assoc]
          exact List.Perm.append_left _ List.perm_append_comm
        exact p.nodup_iff.mpr hnd
      · intro v hv
        exact hfb v (by simp at hv ⊢; rcases hv with h | h | h <;> simp [h])
      · rintro z ys η2 S2 ⟨pre, rs, ps, fa, ba, o, hr, hsr, hps, hpre, hn2, hfb2, rfl, hf2, hb2, hq2, hfr2⟩
        cases rs with
        | nil => cases hr
        | cons w rs =>
          obtain ⟨rfl, rfl⟩ := List.cons.inj hr
          refine ⟨_, rfl, ?_⟩
          have ha : adjOf qs u w := rowOf_mem.mp (sp.mem_iff.mp (by rw [hsr]; simp))
          have hwn := (T.lt _ _ ha).2
          have hbu := (hfb2 u (by simp)).2
          have hfu := (hfb2 u (by simp)).1
          try array_get_dec
          simp only [tab_ix hb2 hu, tab_ix hf2 hu, hbu, hfu]
          try array_get_dec
          have hnd2 := List.nodup_append.mp hnd
          have hud : u ∉ dn := fun h => hnd2.2.2 u h u (by simp) rfl
          by_cases hw : w = nx s u
          · rw [if_neg (by simp [hw])]
            try array_get_dec
            have hus : u ≠ s := fun e => T.irr _ _ ha (by rw [hw, e, T.nxs s hs])
            have hwd : w ∈ dn := by rw [hw]; exact hnx u (by simp) hus
            exact ⟨pre ++ [w], rs, rfl, by rw [hsr]; simp, ps, fun v hv => ⟨by simp [(hps v hv).1], (hps v hv).2⟩, fun x hx => by
              rcases List.mem_append.mp hx with h | h
              · exact hpre x h
              · have : x = w := by simpa using h
                subst this
                simp [hwd], hn2, fa, ba, hfb2, _, rfl, hf2, hb2, hq2, hfr2⟩
          · rw [if_pos (by simp; omega)]
            have hnw : nx s w = u := by
              rcases T.t1 s u w hs ha with e | e
              · exact absurd e.symm hw
              · exact e
            have hws : w ≠ s := fun e => by
              rw [e, T.nxs s hs] at hnw
              exact T.irr _ _ ha (by rw [e]; exact hnw.symm)
            have hwu : w ≠ u := (T.irr _ _ ha).symm
            have hw1 : w ∉ dn ++ (q' ++ [u]) := fun h => hud (by have := hnx w h hws; rwa [hnw] at this)
            have hw2 : w ∉ ps := fun h => by
              have h2 := (hps w h).1
              rw [hsr] at hrow
              exact (List.nodup_append.mp hrow).2.2 w h2 w (by simp) rfl
            have hwv : w ∉ dn ++ [u] ++ (q' ++ ps) := by
              simp at hw1 ⊢
              exact ⟨hw1.1, hwu, hw1.2.1, hw2⟩
            have eint : D.int ((dp s u : Int) + 1) = D.int ((dp s u + 1 : Nat) : Int) := by congr 1
            have g2 : (S2.set S.length (.list (tab (qs.length + 1) (up fa w (dp s u + 1)))))[S.length + 1]? = some (.list (tab (qs.length + 1) ba)) := by rw [get_ne (by omega)]; exact hb2
            have g3 : ((S2.set S.length (.list (tab (qs.length + 1) (up fa w (dp s u + 1))))).set (S.length + 1) (.list (tab (qs.length + 1) (up ba w u))))[S.length + 1 + 1]? = some (.list ((q' ++ ps).map natD)) := by rw [get_ne (by omega), get_ne (by omega)]; exact hq2
            have hl3 := nodup_len (qs.length + 1) _ hn2 fun v hv => by
              simp at hv
              rcases hv with h | h | h | h
              · exact hlt v (by simp [h])
              · omega
              · exact hlt v (by simp [h])
              · exact (hps v h).2.2
            refine ⟨_, _, by rw [eint]; exact tab_set hf2 hwn, _, _, tab_set g2 hwn, bmTy_ref g3, _, _, append_ref g3 (Nat.lt_of_le_of_lt (m := 300) (by simp at hl3 ⊢; omega) (by decide)), pre ++ [w], rs, rfl, by rw [hsr]; simp, ps ++ [w], ?_, ?_, ?_, up fa w (dp s u + 1), up ba w u, ?_, _, rfl, ?_, ?_, ?_, ((hfr2.setNew (by omega)).setNew (by omega)).setNew (by omega)⟩
            · intro v hv
              rcases List.mem_append.mp hv with h | h
              · exact ⟨by simp [(hps v h).1], (hps v h).2⟩
              · have : v = w := by simpa using h
                subst this
                exact ⟨by simp, hnw, hwn⟩
            · intro x hx
              rcases List.mem_append.mp hx with h | h
              · have := hpre x h
                simp at this ⊢
                rcases this with h | h | h | h <;> simp [h]
              · have : x = w := by simpa using h
                simp [this]
            · have eL : dn ++ [u] ++ (q' ++ (ps ++ [w])) = (dn ++ [u] ++ (q' ++ ps)) ++ [w] := by simp
              rw [eL]
              exact List.nodup_append.mpr ⟨hn2, by simp, fun x hx y hy z => by
                have : y = w := by simpa using hy
                subst this
                exact hwv (z ▸ hx)⟩
            · intro v hv
              unfold up
              by_cases e : v = w
              · rw [if_pos e, if_pos e, e, hnw, T.dpnx s w hs hwn hws, hnw]
                exact ⟨rfl, rfl⟩
              · rw [if_neg e, if_neg e]
                exact hfb2 v (by simp [e] at hv ⊢; exact hv)
            · rw [get_ne (by omega), get_ne (by omega)]; exact get_set hf2
            · rw [get_ne (by omega)]; exact get_set g2
            · rw [show (q' ++ (ps ++ [w])).map natD = (q' ++ ps).map natD ++ [natD w] from by simp]; exact get_set g3
      · rintro η2 S2 ⟨pre, rs, ps, fa, ba, o, hr, hsr, hps, hpre, hn2, hfb2, rfl, hf2, hb2, hq2, hfr2⟩
        cases rs with
        | cons w rs => cases hr
        | nil =>
          try array_get_dec
          rw [List.append_nil] at hsr
          have hsub : ∀ v, v ∈ dn ++ (q' ++ [u]) → v ∈ dn ++ [u] ++ (q' ++ ps) := fun v hv => by
            simp at hv ⊢
            rcases hv with h | h | h <;> simp [h]
          have hcase : ∀ v, v ∈ dn ++ [u] ++ (q' ++ ps) → v ∈ dn ++ (q' ++ [u]) ∨ v ∈ ps := fun v hv => by
            simp at hv ⊢
            rcases hv with h | h | h | h <;> simp [h]
          refine ⟨_, ?_, dn ++ [u], rfl, q' ++ ps, hn2, hsub s hsm, ?_, ?_, ?_, fa, ba, hfb2, _, _, rfl, hf2, hb2, hq2, hfr2⟩
          · simp; omega
          · intro v hv
            rcases hcase v hv with h | h
            · exact hlt v h
            · exact (hps v h).2.2
          · intro v hv hvs
            rcases hcase v hv with h | h
            · exact List.mem_append_left _ (hnx v h hvs)
            · rw [(hps v h).2.1]; simp
          · intro v hv x hx
            rcases List.mem_append.mp hv with h | h
            · exact hsub x (hcl v h x hx)
            · have e : v = u := by simpa using h
              subst e
              exact hpre x (by rw [← hsr]; exact sp.mem_iff.mpr (rowOf_mem.mpr hx))
end Mi
set_option Elab.async false
set_option linter.all false
namespace Mi
open PySem L2
/-- the same group: not told apart by any label that is one along the tracks -/
def Same (g : Nat → Nat) (es : List (Nat × Nat)) : Prop := ∀ x y, g x = g y → ∀ f : Nat → Prop, (∀ p ∈ es, f p.1 ↔ f p.2) → (f x ↔ f y)
def joinG (g : Nat → Nat) (kept gone : Nat) : Nat → Nat := fun x => if g x = gone then kept else g x
theorem Same.id : Same (fun x => x) [] := fun x y h f _ => by
  have e : x = y := h
  rw [e]
theorem Same.join {g : Nat → Nat} {es : List (Nat × Nat)} {a b : Nat} (h : Same g es) : Same (joinG g (g a) (g b)) (es ++ [(a, b)]) := by
  intro x y e f hf
  have hes : ∀ p ∈ es, f p.1 ↔ f p.2 := fun p hp => hf p (by simp [hp])
  have hab : f a ↔ f b := hf (a, b) (by simp)
  unfold joinG at e
  by_cases h1 : g x = g b <;> by_cases h2 : g y = g b
  · exact h x y (h1.trans h2.symm) f hes
  · rw [if_pos h1, if_neg h2] at e
    exact (h x b h1 f hes).trans (hab.symm.trans (h a y e f hes))
  · rw [if_neg h1, if_pos h2] at e
    exact (h x a e f hes).trans (hab.trans (h b y h2.symm f hes))
  · rw [if_neg h1, if_neg h2] at e
    exact h x y e f hes
/-- a track of a tree joins two groups -/
theorem Same.apart {n : Nat} {adj : Nat → Nat → Prop} {nx dp : Nat → Nat → Nat} (T : IsTree n adj nx dp) {g : Nat → Nat} {es : List (Nat × Nat)} {a b : Nat} (h : Same g es) (hab : adj a b) (he : ∀ p ∈ es, adj p.1 p.2 ∧ p ≠ (a, b) ∧ p ≠ (b, a)) : g a ≠ g b := by
  intro z
  have q := h a b z (fun v => nx v a = b) fun p hp => by
    obtain ⟨h1, h2, h3⟩ := he p hp
    exact T.side hab h1 (fun e => h2 (Prod.ext e.1 e.2)) (fun e => h3 (Prod.ext e.1 e.2))
  obtain ⟨e1, e2⟩ := T.side_ends hab
  exact e2 (q.mpr e1)
end Mi
set_option Elab.async false
set_option linter.all false
set_option maxRecDepth 100000
namespace Mi
open PySem L2 Tt
local macro_rules | `(tactic| array_get_dec) => `(tactic| simp only [wipeD, ok_exs, ok_exs0, go_next, go_ret, go_brk, go_cont, ok_sex, ok_ret, ok_set, ok_par, ok_seti, ok_seta, ok_site, ok_for, ok_pass, ok_brk, ok_cont, ok_v, ok_c, ok_g, ok_tup, ok_list, ok_mlist, ok_mdict, ok_mdictT, ok_edict, ok_bin, ok_mulm, ok_addm, ok_rngm, ok_neg, ok_cmp, ok_eqE, ok_cmp2, ok_isN, ok_isB, ok_not, ok_eite, ok_ix, ok_sl, ok_slm, ok_vals, ok_rev, ok_attr, ok_cattr, ok_call, ok_bc, ok_isi, ok_meth, ok_bm, ok_cm, ok_mk, ok_mkv, ok_mkx, ok_cs, ok_cmv, ok_lc2, ok_raise, ok_try, ok_fz, ok_lc, ok_evs0, ok_evs1, ok_evsS, ok_and, ok_or, ok_and1, ok_and2, ok_or1, ok_or2, ok_t0, ok_t1, ok_bind, ok_truth, b_add, b_sub, b_mul, b_fdiv, b_mod, b_pow, b_tup, b_list, ite_some, c_lt, c_le, c_gt, c_ge, c_eq, c_ne, eq_int, eq_str, Option.map_some, ix_list, ix_tup, len_list, len_tup, asg_n, asg_t, asgs_0, asgs_1, List.map_cons, List.map_nil, List.length_cons, List.length_nil, List.replicate_succ, List.replicate_zero, List.cons_append, List.nil_append, List.append_nil, Nat.reduceAdd, Nat.reduceSub, Nat.reduceLT, Nat.zero_add, Nat.lt_add_one, Nat.zero_lt_succ, Nat.succ_pos, List.set_cons_zero, List.set_cons_succ, List.getElem?_cons_zero, List.getElem?_cons_succ, Option.bind_some, Option.some.injEq, D.bool.injEq, D.int.injEq, exists_eq_left', exists_eq_left, exists_eq_right, exists_eq_right', exists_and_left, and_true, true_and, if_true, ne_eq, reduceCtorEq, not_false_eq_true, implies_true, if_pos, partE, exists_const, and_assoc, Prod.mk.injEq, if_false, Int.reduceToNat, Int.reducePow, Nat.reducePow, Int.reduceLT, Int.reduceLE, Int.reduceNeg, Int.reduceAdd, Int.reduceSub, Int.reduceMul, decide_eq_true_eq])
section
variable {P : Prog} {S : Store} {i : Int} {xs : List D}
theorem isi_ii : isTys P S (.int i) [.b "int"] = some true := by rfl
theorem isi_ib : isTys P S (.int i) [.b "bool"] = some false := by rfl
theorem isi_tt : isTys P S (.tup xs) [.b "tuple"] = some true := by rfl
end
theorem t_int (n0 : Nat) (S : Store) (i : Int) : Ok (callM Tt.T.prog (run Tt.T.prog (n0 + 1)) i_is_integer [.int i] [] [] S) (fun r S' => r = .bool true ∧ S' = S) Mi.nx := by
  refine ok_fn (fn := f_is_integer) (ds := [.int i]) rfl rfl ?_
  unfold f_is_integer
  array_get_dec
  simp only [isi_ii, isi_ib]
  array_get_dec
  rfl
theorem t_track (n0 : Nat) (S : Store) (a b n : Nat) (ha : a < n) (hb : b < n) (hab : a ≠ b) : Ok (callM Tt.T.prog (run Tt.T.prog (n0 + 2)) i_is_track [pairD (a, b), .int n] [] [] S) (fun r S' => r = .bool true ∧ S' = S) Mi.nx := by
  have e0 : atI [D.int (a : Int), D.int b] 0 = some (.int a) := rfl
  have e1 : atI [D.int (a : Int), D.int b] 1 = some (.int b) := rfl
  unfold pairD
  refine ok_fn (fn := f_is_track) (ds := [.tup [.int a, .int b], .int n]) rfl rfl ?_
  unfold f_is_track
  array_get_dec
  simp only [isi_tt, e0, e1]
  array_get_dec
  rw [if_neg (by simp), if_neg (by decide)]
  refine (t_int n0 S a).mono fun r S1 q => ?_
  obtain ⟨rfl, rfl⟩ := q
  try array_get_dec
  rw [if_neg (by simp)]
  refine (t_int n0 S1 b).mono fun r S2 q => ?_
  obtain ⟨rfl, rfl⟩ := q
  try array_get_dec
  rw [if_neg (by simp), if_pos (by omega), if_pos (by omega), if_pos (by omega), if_pos (by omega)]
  rw [decide_eq_false (by omega)]
  rfl
end Mi
set_option Elab.async false
set_option linter.all false
set_option maxRecDepth 100000
namespace Mi
open PySem L2 Tt
local macro_rules | `(tactic| array_get_dec) => `(tactic| simp only [wipeD, ok_exs, ok_exs0, go_next, go_ret, go_brk, go_cont, ok_sex, ok_ret, ok_set, ok_par, ok_seti, ok_seta, ok_site, ok_for, ok_pass, ok_brk, ok_cont, ok_v, ok_c, ok_g, ok_tup, ok_list, ok_mlist, ok_mdict, ok_mdictT, ok_edict, ok_bin, ok_mulm, ok_addm, ok_rngm, ok_neg, ok_cmp, ok_eqE, ok_cmp2, ok_isN, ok_isB, ok_not, ok_eite, ok_ix, ok_sl, ok_slm, ok_vals, ok_rev, ok_attr, ok_cattr, ok_call, ok_bc, ok_isi, ok_meth, ok_bm, ok_cm, ok_mk, ok_mkv, ok_mkx, ok_cs, ok_cmv, ok_lc2, ok_raise, ok_try, ok_fz, ok_lc, ok_evs0, ok_evs1, ok_evsS, ok_and, ok_or, ok_and1, ok_and2, ok_or1, ok_or2, ok_t0, ok_t1, ok_bind, ok_truth, b_add, b_sub, b_mul, b_fdiv, b_mod, b_pow, b_tup, b_list, ite_some, c_lt, c_le, c_gt, c_ge, c_eq, c_ne, eq_int, eq_str, Option.map_some, ix_list, ix_tup, len_list, len_tup, asg_n, asg_t, asgs_0, asgs_1, List.map_cons, List.map_nil, List.length_cons, List.length_nil, List.replicate_succ, List.replicate_zero, List.cons_append, List.nil_append, List.append_nil, Nat.reduceAdd, Nat.reduceSub, Nat.reduceLT, Nat.zero_add, Nat.lt_add_one, Nat.zero_lt_succ, Nat.succ_pos, List.set_cons_zero, List.set_cons_succ, List.getElem?_cons_zero, List.getElem?_cons_succ, Option.bind_some, Option.some.injEq, D.bool.injEq, D.int.injEq, exists_eq_left', exists_eq_left, exists_eq_right, exists_eq_right', exists_and_left, and_true, true_and, if_true, ne_eq, reduceCtorEq, not_false_eq_true, implies_true, if_pos, partE, exists_const, and_assoc, Prod.mk.injEq, if_false, Int.reduceToNat, Int.reducePow, Nat.reducePow, Int.reduceLT, Int.reduceLE, Int.reduceNeg, Int.reduceAdd, Int.reduceSub, Int.reduceMul, decide_eq_true_eq])
theorem t_faults (n0 : Nat) (S : Store) (qs : List (Nat × Nat)) {nx dp : Nat → Nat → Nat} (T : IsTree (qs.length + 1) (adjOf qs) nx dp) (hl : qs.length ≤ 99) (hnd : qs.Nodup) (hsw : ∀ a b, (a, b) ∈ qs → (b, a) ∉ qs) :
    Ok (callM Tt.T.prog (run Tt.T.prog (n0 + 3)) i_track_faults [.tup (qs.map pairD)] [] [] S) (fun r S' => r = .list [] ∧ Fr [] S S') Mi.nx := by
  generalize hd : D.tup (qs.map pairD) = dd
  refine ok_fn (fn := f_track_faults) (ds := [dd]) rfl rfl ?_
  subst hd
  unfold f_track_faults
  array_get_dec
  simp only [List.length_map]
  refine ⟨.int 100, rfl, ?_⟩
  array_get_dec
  rw [if_neg (by omega)]
  have e0 : bfn BFn.listRange S [D.int ((qs.length : Int) + 1)] = some (.list (tab (qs.length + 1) fun x => x)) := by
    show (if rangeOk 0 ((qs.length : Int) + 1) then some (D.list (rangeD 0 ((qs.length : Int) + 1))) else none) = _
    have e := rng1_items (b := ((qs.length + 1 : Nat) : Int)) (by omega) (by omega)
    have e3 : items .rng1 [.int ((qs.length + 1 : Nat) : Int)] = if rangeOk 0 ((qs.length + 1 : Nat) : Int) then some (rangeD 0 ((qs.length + 1 : Nat) : Int)) else none := rfl
    rw [e3] at e
    have e4 : ((qs.length + 1 : Nat) : Int) = (qs.length : Int) + 1 := by push_cast; rfl
    rw [← e4]
    by_cases h : rangeOk 0 ((qs.length + 1 : Nat) : Int) = true
    · rw [if_pos h, range0]; rfl
    · rw [if_neg h] at e; cases e
  refine ⟨_, e0, _, rfl, ?_⟩
  refine for_inv (fun rest η2 S2 => ∃ pre rs g k o3 o4 o5 o6 o7, qs = pre ++ rs ∧ rest = countUp k (rs.map pairD) ∧ Same g pre ∧
    η2 = [some (D.tup (qs.map pairD)), some (D.int ((qs.length : Int) + 1)), some (D.list (tab (qs.length + 1) g)), o3, o4, o5, o6, o7] ∧ Fr [] S S2)
    ⟨[], qs, fun x => x, 0, none, none, none, none, none, rfl, rfl, Same.id, rfl, Fr.refl _ _⟩ ?_ ?_
  · rintro z ys η2 S2 ⟨pre, rs, g, k, o3, o4, o5, o6, o7, hqs, hr, hg, rfl, f2⟩
    cases rs with
    | nil => cases hr
    | cons p rs =>
      obtain ⟨a, b⟩ := p
      obtain ⟨rfl, rfl⟩ := List.cons.inj hr
      refine ⟨_, rfl, ?_⟩
      have hm : (a, b) ∈ qs := by rw [hqs]; simp
      obtain ⟨ha, hb⟩ := T.lt a b (.inl hm)
      have hab := T.irr a b (.inl hm)
      have hne : g a ≠ g b := Same.apart T hg (.inl hm) fun p hp => by
        have hpq : p ∈ qs := by rw [hqs]; simp [hp]
        refine ⟨.inl hpq, fun e => ?_, fun e => ?_⟩
        · subst e
          rw [hqs] at hnd
          exact (List.nodup_append.mp hnd).2.2 _ hp _ (by simp) rfl
        · subst e
          exact hsw a b hm hpq
      try array_get_dec
      have e1 : ((qs.length : Int) + 1) = ((qs.length + 1 : Nat) : Int) := by push_cast; rfl
      rw [e1]
      refine (t_track n0 S2 a b _ ha hb hab).mono fun r S1 q => ?_
      obtain ⟨rfl, rfl⟩ := q
      have p0 : ixop S1 (pairD (a, b)) (.int 0) = some (.int a) := rfl
      have p1 : ixop S1 (pairD (a, b)) (.int 1) = some (.int b) := rfl
      have q0 : ixop S1 (.list (tab (qs.length + 1) g)) (.int a) = some (.int (g a)) := tab_at ha
      have q1 : ixop S1 (.list (tab (qs.length + 1) g)) (.int b) = some (.int (g b)) := tab_at hb
      try array_get_dec
      rw [if_neg (by simp)]
      simp only [p0, p1, q0, q1, Option.some.injEq, exists_eq_left', exists_eq_left, eq_int, Option.map_some, D.bool.injEq]
      rw [if_neg (by simp; omega)]
      refine ⟨by decide, _, rfl, ?_⟩
      refine lc_inv (fun rest acc S' => ∃ k, k ≤ qs.length + 1 ∧ rest = (List.range' k (qs.length + 1 - k)).map (fun v => natD (g v)) ∧ acc = tab k (joinG g (g a) (g b)) ∧ Fr [] S S')
        ⟨0, Nat.zero_le _, by unfold tab; rw [List.range_eq_range']; rfl, rfl, f2.trans (Fr.app _ _ _)⟩ ?_ ?_
      · rintro z ys acc S' ⟨j, hj, hr, rfl, f⟩ hacc
        have hlt : j < qs.length + 1 := by
          rcases Nat.lt_or_ge j (qs.length + 1) with q | q
          · exact q
          · rw [show qs.length + 1 - j = 0 by omega] at hr; cases hr
        rw [show qs.length + 1 - j = (qs.length + 1 - (j + 1)) + 1 by omega, List.range'_succ, List.map_cons] at hr
        obtain ⟨rfl, rfl⟩ := List.cons.inj hr
        refine ⟨by unfold tab; rw [List.length_map, List.length_range]; exact Nat.lt_of_lt_of_le (show j < 1000 by omega) (by decide), ?_⟩
        rw [ok_lcT]
        refine ⟨_, rfl, ?_⟩
        have next : tab j (joinG g (g a) (g b)) ++ [natD (joinG g (g a) (g b) j)] = tab (j + 1) (joinG g (g a) (g b)) := by
          unfold tab
          rw [List.range_succ, List.map_append]
          rfl
        have hl : S1.length < S.length + S1.length + 1 := by omega
        try array_get_dec
        by_cases h : g j = g b
        · rw [if_pos (by simp [h])]
          refine ⟨hacc, j + 1, by omega, rfl, ?_, f.setNew f2.1⟩
          rw [← next]
          unfold joinG
          rw [if_pos h]
        · rw [if_neg (by omega)]
          refine ⟨hacc, j + 1, by omega, rfl, ?_, f.setNew f2.1⟩
          rw [← next]
          unfold joinG
          rw [if_neg h]
      · rintro acc S' ⟨j, hj, hr, rfl, f⟩ hacc
        have hjn : j = qs.length + 1 := by
          have := congrArg List.length hr
          simp at this
          omega
        subst hjn
        try array_get_dec
        exact ⟨pre ++ [(a, b)], rs, by rw [hqs]; simp, joinG g (g a) (g b), k + 1, rfl, hg.join, _, _, _, _, _, rfl, f.setNew f2.1⟩
  · rintro η2 S2 ⟨pre, rs, g, k, o3, o4, o5, o6, o7, hqs, hr, hg, rfl, f2⟩
    try array_get_dec
    exact ⟨by decide, f2⟩
end Mi
set_option Elab.async false
set_option linter.all false
namespace Mi
open PySem L2
theorem le_line {k : Nat} (h : k ≤ 16777216) : (k ≤ line) = True := eq_true (by rw [show line = 16777216 from PySem.sizeLine_eq]; exact h)
theorem lt_line {k : Nat} (h : k < 16777216) : (k < line) = True := eq_true (by rw [show line = 16777216 from PySem.sizeLine_eq]; exact h)
theorem atI_0 {α : Type} {x : α} {l : List α} : atI (x :: l) 0 = some x := by
  rw [show (0 : Int) = ((0 : Nat) : Int) from rfl, atI_nat]
  rfl
theorem atI_1 {α : Type} {x y : α} {l : List α} : atI (x :: y :: l) 1 = some y := by
  rw [show (1 : Int) = ((1 : Nat) : Int) from rfl, atI_nat]
  rfl
theorem okx_for0 {tg : Tg} {b : Env → Store → XR} {η : Env} {S : Store} {Q : Fl → Env → Store → Prop} {E : D → Env → Store → Prop} : OkX (forX tg b [] η S) Q E = Q .next η S := by unfold forX; rfl
/-- each item gives its own, or nothing; the old cells stand -/
theorem lc_fm {P : Prog} {Φ : Call} {η : Env} {S : Store} {own : List Nat} {tg : Tg} {cond : List Mi.E} {elt : Mi.E} {xs : List D} {QD : D → Store → Prop} {E : D → Store → Prop} (h : D → Option D) (hl : xs.length ≤ line)
    (st : ∀ x ∈ xs, ∀ S', Fr [] S S' → S.length < S'.length → Ok (lcT P Φ own tg cond elt η x S') (fun r S'' => r = h x ∧ Fr [] S' S'') nx)
    (e : ∀ S', Fr [] S S' → QD (.list (xs.filterMap h)) S') :
    Ok (lcLoop (lcT P Φ own tg cond elt η) S.length xs (S ++ [.list []])) (fun _ S2 => Ok (lcEnd false S.length S2) QD E) E := by
  refine lc_inv (fun rest acc S' => ∃ pre, xs = pre ++ rest ∧ acc = pre.filterMap h ∧ Fr [] S S' ∧ S.length < S'.length) ⟨[], rfl, rfl, Fr.app _ _ _, by simp⟩ ?_ ?_
  · rintro x ys acc S' ⟨pre, hx, rfl, f, hlt⟩ hacc
    have h1 : (pre.filterMap h).length ≤ pre.length := List.length_filterMap_le _ _
    refine ⟨by rw [hx] at hl; simp at hl; omega, (st x (by rw [hx]; simp) S' f hlt).imp (fun r S'' ⟨hr, f2⟩ => ⟨f2.get hacc (by simp), ?_⟩) (fun _ _ z => z)⟩
    subst hr
    cases hh : h x with
    | none => exact ⟨pre ++ [x], by rw [hx]; simp, by simp [hh], f.trans f2, Nat.lt_of_lt_of_le hlt f2.1⟩
    | some y => exact ⟨pre ++ [x], by rw [hx]; simp, by simp [hh], (f.trans f2).setNew (Nat.le_refl _), by simpa using Nat.lt_of_lt_of_le hlt f2.1⟩
  · rintro acc S' ⟨pre, hx, rfl, f, hlt⟩ hacc
    rw [List.append_nil] at hx
    subst hx
    exact e _ (f.setNew (Nat.le_refl _))
theorem lc_map {P : Prog} {Φ : Call} {η : Env} {S : Store} {own : List Nat} {tg : Tg} {cond : List Mi.E} {elt : Mi.E} {xs : List D} {QD : D → Store → Prop} {E : D → Store → Prop} (g : D → D) (hl : xs.length ≤ line)
    (st : ∀ x ∈ xs, ∀ S', Fr [] S S' → S.length < S'.length → Ok (lcT P Φ own tg cond elt η x S') (fun r S'' => r = some (g x) ∧ Fr [] S' S'') nx)
    (e : ∀ S', Fr [] S S' → QD (.list (xs.map g)) S') :
    Ok (lcLoop (lcT P Φ own tg cond elt η) S.length xs (S ++ [.list []])) (fun _ S2 => Ok (lcEnd false S.length S2) QD E) E :=
  lc_fm (fun x => some (g x)) hl st (by rw [List.filterMap_eq_map']; exact e)
/-- over the pictures of a list -/
theorem lc_mapF {α : Type} {P : Prog} {Φ : Call} {η : Env} {S : Store} {own : List Nat} {tg : Tg} {cond : List Mi.E} {elt : Mi.E} {l : List α} (f g : α → D) {QD : D → Store → Prop} {E : D → Store → Prop} (hl : l.length ≤ line)
    (st : ∀ a ∈ l, ∀ S', Fr [] S S' → S.length < S'.length → Ok (lcT P Φ own tg cond elt η (f a) S') (fun r S'' => r = some (g a) ∧ Fr [] S' S'') nx)
    (e : ∀ S', Fr [] S S' → QD (.list (l.map g)) S') :
    Ok (lcLoop (lcT P Φ own tg cond elt η) S.length (l.map f) (S ++ [.list []])) (fun _ S2 => Ok (lcEnd false S.length S2) QD E) E := by
  refine lc_inv (fun rest acc S' => ∃ pre suf, l = pre ++ suf ∧ rest = suf.map f ∧ acc = pre.map g ∧ Fr [] S S' ∧ S.length < S'.length) ⟨[], l, rfl, rfl, rfl, Fr.app _ _ _, by simp⟩ ?_ ?_
  · rintro x ys acc S' ⟨pre, suf, hx, hr, rfl, f1, hlt⟩ hacc
    cases suf with
    | nil => cases hr
    | cons a suf =>
      obtain ⟨rfl, rfl⟩ := List.cons.inj hr
      refine ⟨by rw [hx] at hl; simp at hl ⊢; omega, (st a (by rw [hx]; simp) S' f1 hlt).imp (fun r S'' ⟨hr, f2⟩ => ⟨f2.get hacc (by simp), ?_⟩) (fun _ _ z => z)⟩
      subst hr
      exact ⟨pre ++ [a], suf, by rw [hx]; simp, rfl, by simp, (f1.trans f2).setNew (Nat.le_refl _), by simpa using Nat.lt_of_lt_of_le hlt f2.1⟩
  · rintro acc S' ⟨pre, suf, hx, hr, rfl, f1, hlt⟩ hacc
    cases suf with
    | nil =>
      rw [List.append_nil] at hx
      subst hx
      exact e _ (f1.setNew (Nat.le_refl _))
    | cons a suf => cases hr
/-- .. some of them -/
theorem lc_filF {α : Type} {P : Prog} {Φ : Call} {η : Env} {S : Store} {own : List Nat} {tg : Tg} {cond : List Mi.E} {elt : Mi.E} {l : List α} (f g : α → D) (p : α → Bool) {QD : D → Store → Prop} {E : D → Store → Prop} (hl : l.length ≤ line)
    (st : ∀ a ∈ l, ∀ S', Fr [] S S' → S.length < S'.length → Ok (lcT P Φ own tg cond elt η (f a) S') (fun r S'' => r = (if p a = true then some (g a) else none) ∧ Fr [] S' S'') nx)
    (e : ∀ S', Fr [] S S' → QD (.list ((l.filter p).map g)) S') :
    Ok (lcLoop (lcT P Φ own tg cond elt η) S.length (l.map f) (S ++ [.list []])) (fun _ S2 => Ok (lcEnd false S.length S2) QD E) E := by
  refine lc_inv (fun rest acc S' => ∃ pre suf, l = pre ++ suf ∧ rest = suf.map f ∧ acc = (pre.filter p).map g ∧ Fr [] S S' ∧ S.length < S'.length) ⟨[], l, rfl, rfl, rfl, Fr.app _ _ _, by simp⟩ ?_ ?_
  · rintro x ys acc S' ⟨pre, suf, hx, hr, rfl, f1, hlt⟩ hacc
    cases suf with
    | nil => cases hr
    | cons a suf =>
      obtain ⟨rfl, rfl⟩ := List.cons.inj hr
      have h1 := List.length_filter_le p pre
      refine ⟨by rw [hx] at hl; simp at hl ⊢; omega, (st a (by rw [hx]; simp) S' f1 hlt).imp (fun r S'' ⟨hr, f2⟩ => ⟨f2.get hacc (by simp), ?_⟩) (fun _ _ z => z)⟩
      subst hr
      by_cases hp : p a = true
      · rw [if_pos hp]
        exact ⟨pre ++ [a], suf, by rw [hx]; simp, rfl, by simp [List.filter_append, hp], (f1.trans f2).setNew (Nat.le_refl _), by simpa using Nat.lt_of_lt_of_le hlt f2.1⟩
      · rw [if_neg hp]
        exact ⟨pre ++ [a], suf, by rw [hx]; simp, rfl, by simp [List.filter_append, hp], f1.trans f2, Nat.lt_of_lt_of_le hlt f2.1⟩
  · rintro acc S' ⟨pre, suf, hx, hr, rfl, f1, hlt⟩ hacc
    cases suf with
    | nil =>
      rw [List.append_nil] at hx
      subst hx
      exact e _ (f1.setNew (Nat.le_refl _))
    | cons a suf => cases hr
mutual
/-- numbers below 10^12 alone -/
def plI : PyData → Bool
  | .none | .bool _ => true
  | .int i => decide (i.natAbs < 10 ^ 12)
  | .str x => PyData.strOk x && PyData.strOk (PyData.str x).shown
  | .dict _ => false
  | .list xs | .tuple xs => plIs xs
def plIs : List PyData → Bool
  | [] => true
  | x :: xs => plI x && plIs xs
end
open PyData in
mutual
theorem pl_all : ∀ d : PyData, plI d = true → d.canLay0 = true ∧ d.hasDict = false ∧ d.showable = true ∧ d.intsShort 13 = true
  | .none, _ => ⟨rfl, rfl, rfl, rfl⟩
  | .bool _, _ => ⟨rfl, rfl, rfl, rfl⟩
  | .int i, h => by
    simp only [plI, decide_eq_true_eq] at h
    refine ⟨rfl, rfl, ?_, ?_⟩
    · simp only [showable, decide_eq_true_eq]
      by_cases h0 : i.natAbs = 0
      · rw [h0]; decide
      · exact (Nat.log2_lt h0).mpr (Nat.lt_of_lt_of_le h (Nat.le_trans (show 10 ^ 12 ≤ 2 ^ 40 by decide) (Nat.pow_le_pow_right (by decide) (by decide))))
    · simp only [intsShort, decide_eq_true_eq]
      exact shown_int_le h
  | .str x, h => by
    simp only [plI, Bool.and_eq_true] at h
    exact ⟨by simpa only [canLay0] using h.1, rfl, rfl, rfl⟩
  | .dict _, h => by simp [plI] at h
  | .list xs, h => by
    obtain ⟨h1, h2, h3, h4⟩ := pl_alls xs (by simpa only [plI] using h)
    simp only [canLay0, hasDict, showable, intsShort]
    exact ⟨h1, h2, h3, h4⟩
  | .tuple xs, h => by
    obtain ⟨h1, h2, h3, h4⟩ := pl_alls xs (by simpa only [plI] using h)
    simp only [canLay0, hasDict, showable, intsShort]
    exact ⟨h1, h2, h3, h4⟩
theorem pl_alls : ∀ xs : List PyData, plIs xs = true → canLayAll0 xs = true ∧ hasDictAll xs = false ∧ showableAll xs = true ∧ intsShortAll 13 xs = true
  | [], _ => ⟨rfl, rfl, rfl, rfl⟩
  | x :: xs, h => by
    simp only [plIs, Bool.and_eq_true] at h
    obtain ⟨h1, h2, h3, h4⟩ := pl_all x h.1
    obtain ⟨g1, g2, g3, g4⟩ := pl_alls xs h.2
    simp only [canLayAll0, hasDictAll, showableAll, intsShortAll, h1, h2, h3, h4, g1, g2, g3, g4, Bool.and_self, Bool.or_self]
    exact ⟨trivial, trivial, trivial, trivial⟩
end
open PyData in
theorem ok_sapp {a b : Str} (h : strOk a = true) (h2 : strOk b = true) : strOk (a ++ b) = true := by
  show (a.cps ++ b.cps).all (· < 0x110000) = true
  rw [Array.all_append]
  exact Bool.and_eq_true_iff.mpr ⟨h, h2⟩
open PyData in
theorem ok_sof (s : String) : strOk (Str.ofString s) = true := by
  rw [Str.ofString_eq_toList]
  unfold strOk
  rw [Array.all_eq_true_iff_forall_mem]
  intro c hc
  simp only [List.mem_toArray, List.mem_map] at hc
  obtain ⟨ch, _, rfl⟩ := hc
  have h := ch.valid
  simp only [decide_eq_true_eq]
  have h2 : ch.toNat.isValidChar := h
  unfold Nat.isValidChar at h2
  omega
open PyData in
theorem ok_sjoin {z : Str} (hz : strOk z = true) : ∀ ts : List Str, (∀ t ∈ ts, strOk t = true) → strOk (Str.join z ts) = true
  | [], _ => by simp [Str.join, Str.empty, strOk]
  | [x], h => h x (by simp)
  | x :: y :: r, h => ok_sapp (ok_sapp (h x (by simp)) hz) (ok_sjoin hz (y :: r) fun t ht => h t (by simp at ht ⊢; right; exact ht))
open PyData in
theorem ok_sfrom : ∀ (ts : List Str) (k : Nat) (acc : Str), strOk acc = true → (∀ t ∈ ts, strOk t = true) → strOk (textFrom k acc ts) = true
  | [], k, acc, h, _ => h
  | t :: r, k, acc, h, hs => ok_sfrom r (k + 1) _ (ok_sapp (ok_sapp h (ok_sof _)) (hs t (by simp))) fun u hu => hs u (by simp [hu])
open PyData in
mutual
theorem ok_shown : ∀ d : PyData, plI d = true → strOk d.shown = true
  | .none, _ => ok_sof _
  | .bool b, _ => by cases b <;> exact ok_sof _
  | .int i, _ => ok_sof _
  | .str x, h => by
    simp only [plI, Bool.and_eq_true] at h
    exact h.2
  | .dict _, h => by simp [plI] at h
  | .list xs, h => ok_sapp (ok_sfrom _ _ _ (ok_sof _) (ok_showns xs (by simpa only [plI] using h))) (ok_sof _)
  | .tuple xs, h => ok_sapp (ok_sapp (ok_sof _) (ok_sjoin (ok_sof _) _ (ok_showns xs (by simpa only [plI] using h)))) (ok_sof _)
theorem ok_showns : ∀ xs : List PyData, plIs xs = true → ∀ t ∈ shownAll xs, strOk t = true
  | [], _, t, ht => by simp [shownAll] at ht
  | x :: xs, h, t, ht => by
    simp only [plIs, Bool.and_eq_true] at h
    simp only [shownAll, List.mem_cons] at ht
    rcases ht with rfl | ht
    · exact ok_shown x h.1
    · exact ok_showns xs h.2 t ht
end
mutual
theorem lay_of : ∀ d : PyData, d.canLay0 = true → layD d = true
  | .none, _ => rfl
  | .bool _, _ => rfl
  | .int _, _ => rfl
  | .str _, h => by simpa only [layD] using h
  | .dict _, h => by simp [PyData.canLay0] at h
  | .list xs, h => by
    simp only [layD]
    exact lay_ofs xs (by simpa only [PyData.canLay0] using h)
  | .tuple xs, h => by
    simp only [layD]
    exact lay_ofs xs (by simpa only [PyData.canLay0] using h)
theorem lay_ofs : ∀ xs : List PyData, PyData.canLayAll0 xs = true → layDs xs = true
  | [], _ => rfl
  | x :: xs, h => by
    simp only [PyData.canLayAll0, Bool.and_eq_true] at h
    simp only [layDs, Bool.and_eq_true]
    exact ⟨lay_of x h.1, lay_ofs xs h.2⟩
end
theorem repr_is {S : Store} {d : D} {p : PyData} (h : pyS S d = some p) (h1 : plI p = true) (h2 : p.depth ≤ 40) (h3 : p.weight ≤ 2 ^ 20) : reprD S d = some p.shown ∧ PyData.strOk p.shown = true := by
  obtain ⟨g1, g2, g3, g4⟩ := pl_all p h1
  refine ⟨?_, ok_shown p h1⟩
  unfold reprD
  rw [h]
  refine if_pos ⟨lay_of _ g1, g3, h2, ?_⟩
  refine PyData.shown_fits_of_layable0 (B := 13) (by decide) (by decide) ?_ g4
  unfold PyData.layable0
  rw [g1, decide_eq_true (show p.depth ≤ 64 by omega), decide_eq_true h3]
  rfl
/-- what repr writes of a list -/
noncomputable def shw (xs : List D) : Str := (PyData.list ((pyds xs).getD [])).shown
/-- small data -/
def gd (w : Nat) (x : D) : Prop := ∃ p, pyd x = some p ∧ plI p = true ∧ p.depth ≤ 20 ∧ p.weight ≤ w
def gds (w : Nat) (xs : List D) : Prop := ∃ ps, pyds xs = some ps ∧ plIs ps = true ∧ PyData.depthAll ps ≤ 20 ∧ PyData.weightAll ps ≤ w
theorem gds_nil {w : Nat} : gds w [] := ⟨[], by unfold pyds; rfl, rfl, Nat.zero_le _, Nat.zero_le _⟩
theorem gds_cons {w v u : Nat} {x : D} {xs : List D} (h : gd w x) (h2 : gds v xs) (hu : w + 1 + v ≤ u) : gds u (x :: xs) := by
  obtain ⟨p, a1, a2, a3, a4⟩ := h
  obtain ⟨ps, b1, b2, b3, b4⟩ := h2
  refine ⟨p :: ps, ?_, ?_, ?_, ?_⟩
  · unfold pyds
    rw [a1, b1]
  · unfold plIs
    rw [a2, b2]
    rfl
  · unfold PyData.depthAll
    omega
  · unfold PyData.weightAll
    omega
theorem gds_all {w : Nat} : ∀ {xs : List D} {u : Nat}, (∀ x ∈ xs, gd w x) → (w + 1) * xs.length ≤ u → gds u xs
  | [], u, _, _ => gds_nil
  | x :: xs, u, h, hu => gds_cons (h x (by simp)) (gds_all (fun y hy => h y (by simp [hy])) (Nat.le_refl _)) (by simp only [List.length_cons, Nat.mul_add] at hu; omega)
theorem gd_bool {b : Bool} {w : Nat} : gd w (.bool b) := ⟨.bool b, by unfold pyd; rfl, rfl, Nat.zero_le _, Nat.zero_le _⟩
theorem gd_str {x : Str} {w : Nat} (h : plI (.str x) = true) (hw : x.cps.size ≤ w) : gd w (.str x) := ⟨.str x, by unfold pyd; rfl, h, Nat.zero_le _, by unfold PyData.weight; exact hw⟩
theorem gd_none {w : Nat} : gd w .none := ⟨.none, by unfold pyd; rfl, rfl, Nat.zero_le _, Nat.zero_le _⟩
theorem gd_int {i : Int} {w : Nat} (h : i.natAbs < 10 ^ 12) (hw : 40 ≤ w) : gd w (.int i) := by
  refine ⟨.int i, pyd_int, by simp only [plI]; exact decide_eq_true h, Nat.zero_le _, ?_⟩
  unfold PyData.weight
  by_cases h0 : i = 0
  · subst h0; exact Nat.zero_le _
  · have e : (i == 0) = false := by simpa using h0
    rw [e]
    have h2 : i.natAbs.log2 < 40 := (Nat.log2_lt (by omega)).mpr (Nat.lt_of_lt_of_le h (by decide))
    simp only [Bool.false_eq_true, if_false]
    omega
theorem gd_nat {i : Nat} {w : Nat} (h : i < 10 ^ 12) (hw : 40 ≤ w) : gd w (.int i) := gd_int (by simpa using h) hw
theorem gd_tup {xs : List D} {w : Nat} (h : gds w xs) (hd : ∃ ps, pyds xs = some ps ∧ PyData.depthAll ps ≤ 19) : gd w (.tup xs) := by
  obtain ⟨ps, b1, b2, b3, b4⟩ := h
  obtain ⟨qs, c1, c2⟩ := hd
  rw [b1] at c1
  cases c1
  refine ⟨.tuple ps, by unfold pyd; rw [b1]; rfl, by simpa only [plI] using b2, by unfold PyData.depth; omega, by unfold PyData.weight; exact b4⟩
theorem gd_list {xs : List D} {w : Nat} (h : gds w xs) (hd : ∃ ps, pyds xs = some ps ∧ PyData.depthAll ps ≤ 19) : gd w (.list xs) := by
  obtain ⟨ps, b1, b2, b3, b4⟩ := h
  obtain ⟨qs, c1, c2⟩ := hd
  rw [b1] at c1
  cases c1
  refine ⟨.list ps, by unfold pyd; rw [b1]; rfl, by simpa only [plI] using b2, by unfold PyData.depth; omega, by unfold PyData.weight; exact b4⟩
theorem gd_nats {l : List Nat} {w : Nat} (h : ∀ v ∈ l, v < 10 ^ 12) (hw : 41 * l.length ≤ w) : gd w (.tup (l.map fun i : Nat => D.int i)) := by
  refine gd_tup (gds_all (w := 40) (fun x hx => ?_) (by simpa using hw)) ⟨_, pyds_nat l, by rw [(lay_nat l).2]; omega⟩
  obtain ⟨v, hv, rfl⟩ := List.mem_map.mp hx
  exact gd_nat (h v hv) (Nat.le_refl _)
theorem repr_shw {S : Store} {xs : List D} {w : Nat} (h : gds w xs) (hw : w ≤ 2 ^ 20) : bfn .repr S [.list xs] = some (.str (shw xs)) ∧ ∀ S', eqOp S' (.str (shw xs)) (.str (shw xs)) = some true := by
  obtain ⟨ps, b1, b2, b3, b4⟩ := h
  have hp : pyS S (.list xs) = some (.list ps) := by
    unfold pyS deref pyd
    rw [b1]
    rfl
  obtain ⟨r1, r2⟩ := repr_is hp (by simpa only [plI] using b2) (by simp only [PyData.depth]; omega) (by simp only [PyData.weight]; omega)
  have e : shw xs = (PyData.list ps).shown := by
    unfold shw
    rw [b1]
    rfl
  rw [e]
  refine ⟨?_, fun S' => by rw [eq_str r2 r2]; simp⟩
  show ((reprD S (.list xs)).map D.str) = _
  rw [r1]
  rfl
theorem repr_step {S : Store} {xs : List D} {w : Nat} {B K : Prop} (h : gds w xs) (hw : w ≤ 2 ^ 20) (k : K) : 2 ≤ line ∧ ∃ d, bfn .repr S [.list xs] = some d ∧ 2 ≤ line ∧ ∃ d_1, bfn .repr S [.list xs] = some d_1 ∧ ∃ d_2, Option.map (fun r => D.bool !r) (eqOp S d d_1) = some d_2 ∧ ∃ t, d_2 = .bool t ∧ if t = true then B else K := by
  obtain ⟨r1, r2⟩ := repr_shw (S := S) h hw
  refine ⟨by decide, _, r1, by decide, _, r1, _, by rw [r2]; rfl, false, rfl, ?_⟩
  rw [if_neg (by simp)]
  exact k
end Mi
set_option Elab.async false
set_option linter.all false
set_option maxRecDepth 100000
namespace Mi
open PySem L2 Tt
local macro_rules | `(tactic| array_get_dec) => `(tactic| simp only [wipeD, ok_exs, ok_exs0, go_next, go_ret, go_brk, go_cont, ok_sex, ok_ret, ok_set, ok_par, ok_seti, ok_seta, ok_site, ok_for, ok_pass, ok_brk, ok_cont, ok_v, ok_c, ok_g, ok_tup, ok_list, ok_mlist, ok_mdict, ok_mdictT, ok_edict, ok_bin, ok_mulm, ok_addm, ok_rngm, ok_neg, ok_cmp, ok_eqE, ok_cmp2, ok_isN, ok_isB, ok_not, ok_eite, ok_ix, ok_sl, ok_slm, ok_vals, ok_rev, ok_attr, ok_cattr, ok_call, ok_bc, ok_isi, ok_meth, ok_bm, ok_cm, ok_mk, ok_mkv, ok_mkx, ok_cs, ok_cmv, ok_lc2, ok_raise, ok_try, ok_fz, ok_lc, ok_evs0, ok_evs1, ok_evsS, ok_and, ok_or, ok_and1, ok_and2, ok_or1, ok_or2, ok_t0, ok_t1, ok_bind, ok_truth, b_add, b_sub, b_mul, b_fdiv, b_mod, b_pow, b_tup, b_list, ite_some, c_lt, c_le, c_gt, c_ge, c_eq, c_ne, eq_int, eq_str, Option.map_some, ix_list, ix_tup, len_list, len_tup, asg_n, asg_t, asgs_0, asgs_1, List.map_cons, List.map_nil, List.length_cons, List.length_nil, List.replicate_succ, List.replicate_zero, List.cons_append, List.nil_append, List.append_nil, Nat.reduceAdd, Nat.reduceSub, Nat.reduceLT, Nat.zero_add, Nat.lt_add_one, Nat.zero_lt_succ, Nat.succ_pos, List.set_cons_zero, List.set_cons_succ, List.getElem?_cons_zero, List.getElem?_cons_succ, Option.bind_some, Option.some.injEq, D.bool.injEq, D.int.injEq, exists_eq_left', exists_eq_left, exists_eq_right, exists_eq_right', exists_and_left, and_true, true_and, if_true, ne_eq, reduceCtorEq, not_false_eq_true, implies_true, if_pos, partE, exists_const, and_assoc, Prod.mk.injEq, if_false, Int.reduceToNat, Int.reducePow, Nat.reducePow, Int.reduceLT, Int.reduceLE, Int.reduceNeg, Int.reduceAdd, Int.reduceSub, Int.reduceMul, decide_eq_true_eq])
theorem bindF_star {p : Str} {n : Nat} {b : List St} {v : D} {vs : List D} (h : vs.length < line) : bindF ⟨[p], [], true, n, b⟩ (v :: vs) [] [] = some [v, .tup vs] := by
  show (if _ then some _ else none) = _
  rw [if_pos ⟨rfl, rfl, rfl, by simp, h⟩]
  rfl
theorem setA_new {P : Prog} {n c k : Nat} {f : Str} {fs : List D} {v : D} {S : Store} (h : S[n]? = some (.inst c fs)) (ha : P.attr c f = some (.fld k)) (hk : k = fs.length) : setA P (.ref n) f v S = some (.none, S.set n (.inst c (fs ++ [v]))) := by
  unfold setA
  simp only [h, ha]
  rw [if_neg (by omega), if_pos hk]
theorem ok_getR {P : Prog} {Φ : Call} {n c k : Nat} {f : Str} {fs : List D} {v : D} {S : Store} {Q : D → Store → Prop} {E : D → Store → Prop} (h : S[n]? = some (.inst c fs)) (ha : P.attr c f = some (.fld k)) (hv : fs[k]? = some v) : Ok (getA P Φ (.ref n) f S) Q E = Q v S := by
  unfold getA getI clsOf
  simp only [h, ha, hv]
  rfl
theorem ok_getO {P : Prog} {Φ : Call} {c k : Nat} {f : Str} {fs : List D} {v : D} {S : Store} {Q : D → Store → Prop} {E : D → Store → Prop} (ha : P.attr c f = some (.fld k)) (hv : fs[k]? = some v) : Ok (getA P Φ (.obj c fs) f S) Q E = Q v S := by
  unfold getA getI clsOf
  simp only [ha, hv]
  rfl
noncomputable def railF (qs : List (Nat × Nat)) (nx dp : Nat → Nat → Nat) : List D :=
  [.list ((List.range (qs.length + 1)).map (rowT qs)), .list ((List.range (qs.length + 1)).map fun s => .list (tab (qs.length + 1) (dp s))), .list ((List.range (qs.length + 1)).map fun s => .list (tab (qs.length + 1) (nx s)))]
noncomputable abbrev railD (qs : List (Nat × Nat)) (nx dp : Nat → Nat → Nat) : D := .obj 0 (railF qs nx dp)
theorem t_init (n0 : Nat) (S : Store) (qs : List (Nat × Nat)) {nx dp : Nat → Nat → Nat} (T : IsTree (qs.length + 1) (adjOf qs) nx dp) (hl : qs.length ≤ 99) (hnd : qs.Nodup) (hsw : ∀ a b, (a, b) ∈ qs → (b, a) ∉ qs) (hrn : ∀ i, (rowOf qs i).Nodup) (c : Nat) (hc : S[c]? = some (.inst 0 [])) :
    Ok (callM Tt.T.prog (run Tt.T.prog (n0 + 4)) i_Railway_init (.ref c :: qs.map pairD) [] [] S) (fun r S' => r = .none ∧ S'[c]? = some (.inst 0 (railF qs nx dp)) ∧ Fr [c] S S') Mi.nx := by
  generalize hd : D.tup (qs.map pairD) = dd
  refine ok_fn (fn := f_Railway_init) (ds := [.ref c, dd]) rfl (by subst hd; exact bindF_star (by rw [List.length_map]; exact Nat.lt_of_le_of_lt hl (by decide))) ?_
  unfold f_Railway_init
  array_get_dec
  subst hd
  refine (t_faults n0 S qs T hl hnd hsw).mono fun r S1 q => ?_
  obtain ⟨rfl, f1⟩ := q
  refine ⟨_, rfl, ?_⟩
  rw [okx_for0]
  array_get_dec
  refine ⟨_, rng1_items (by simp; omega) (by simp; omega), ?_⟩
  rw [show ((List.map pairD qs).length : Int) + 1 = ((qs.length + 1 : Nat) : Int) by simp]
  refine rows_made (by simp) (by omega) fun S2 hS2 hc2 f2 => ?_
  try array_get_dec
  refine ⟨_, rfl, ?_⟩
  have hq : ∀ p ∈ qs, p.1 < qs.length + 1 ∧ p.2 < qs.length + 1 ∧ p.1 ≠ p.2 := fun p hp => by
    obtain ⟨a, b⟩ := p
    exact ⟨(T.lt a b (.inl hp)).1, (T.lt a b (.inl hp)).2, T.irr a b (.inl hp)⟩
  refine rows_filled (f := 3) (o := 5) (t := 6) (S0 := S) (B := S1.length + 1) (n := qs.length + 1) rfl (by decide) (by decide) (by decide) (by simp) (by simp) hq (by omega) (f1.trans f2) (by have := f1.1; omega) hc2 fun x y S3 hrow hlen f3 hk => ?_
  try array_get_dec
  refine ⟨_, rfl, ?_⟩
  refine lc_inv (fun rest acc S' => ∃ k, k ≤ qs.length + 1 ∧ rest = (List.range' k (qs.length + 1 - k)).map (fun i => D.ref (S1.length + 1 + i)) ∧ acc = (List.range k).map (rowT qs) ∧ (∀ i, i < qs.length + 1 → S'[S1.length + 1 + i]? = some (.list ((rowOf qs i).map natD))) ∧ Fr [] S S' ∧ S3.length < S'.length)
    ⟨0, Nat.zero_le _, by unfold refs; rw [List.range_eq_range']; rfl, rfl, fun i hi => by rw [List.getElem?_append_left (get_lt (hrow i hi))]; exact hrow i hi, f3.trans (Fr.app _ _ _), by simp⟩ ?_ ?_
  · rintro z ys acc S' ⟨k, hk2, hr, rfl, hc, f, hlt3⟩ hacc
    have hlt : k < qs.length + 1 := by
      rcases Nat.lt_or_ge k (qs.length + 1) with q | q
      · exact q
      · rw [show qs.length + 1 - k = 0 by omega] at hr; cases hr
    rw [show qs.length + 1 - k = (qs.length + 1 - (k + 1)) + 1 by omega, List.range'_succ, List.map_cons] at hr
    obtain ⟨rfl, rfl⟩ := List.cons.inj hr
    refine ⟨by rw [List.length_map, List.length_range]; exact Nat.lt_of_lt_of_le (show k < 1000 by omega) (by decide), ?_⟩
    rw [ok_lcT]
    refine ⟨_, rfl, ?_⟩
    try array_get_dec
    obtain ⟨s1, s2⟩ := srt_spec (row_line (qs := qs) (by omega) k)
    have hle : S3.length = S2.length := hlen
    refine ⟨_, by rw [sorted_ref (hc k hlt), s2]; rfl, _, rfl, hacc, k + 1, by omega, rfl, ?_, fun i hi => ?_, f.setNew (by have := f1.1; omega), by simpa using hlt3⟩
    · rw [List.range_succ, List.map_append]
      rfl
    · have h3 := get_lt (hrow i hi)
      rw [get_ne (by omega)]; exact hc i hi
  · rintro acc S' ⟨k, hk2, hr, rfl, hc', f, hlt3⟩ hacc
    have hkn : k = qs.length + 1 := by
      have := congrArg List.length hr
      simp at this
      omega
    subst hkn
    try array_get_dec
    have hcS := get_lt hc
    have hl31 : S.length ≤ S3.length := f3.1
    have gc : (S'.set S3.length Cell.dead)[c]? = some (.inst 0 []) := by
      rw [get_ne (by omega)]; exact f.get hc (by simp)
    refine ⟨_, _, setA_new gc rfl rfl, ?_⟩
    have gc1 := get_set (c' := .inst 0 ([] ++ [.list ((List.range (qs.length + 1)).map (rowT qs))])) gc
    have f4 : Fr [c] S ((S'.set S3.length Cell.dead).set c (.inst 0 ([] ++ [.list ((List.range (qs.length + 1)).map (rowT qs))]))) :=
      ((f.setNew hl31).sub (by simp)).trans (Fr.set (by simp))
    generalize (S'.set S3.length Cell.dead).set c (.inst 0 ([] ++ [.list ((List.range (qs.length + 1)).map (rowT qs))])) = S4 at gc1 f4 ⊢
    rw [show ((refs (S1.length + 1) (qs.length + 1)).length : Int) = ((qs.length + 1 : Nat) : Int) by unfold refs; simp]
    refine ⟨_, rng1_items (by omega) (by omega), ?_⟩
    rw [range0]
    refine lc_mapF (fun i : Nat => D.int i) (fun s => .tup [.list (tab (qs.length + 1) (dp s)), .list (tab (qs.length + 1) (nx s))]) (by simp; exact Nat.le_trans (show _ ≤ 100 by omega) (by decide)) (fun s hs S5 f5 _ => ?_) fun S5 f5 => ?_
    · have hs := List.mem_range.mp hs
      rw [ok_lcT]
      refine ⟨_, rfl, ?_⟩
      try array_get_dec
      rw [ok_getR (f5.get gc1 (by simp)) rfl rfl]
      exact (t_hops (n0 + 2) S5 qs T (by omega) hrn s hs).mono fun r S6 q => ⟨by rw [q.1], q.2⟩
    · try array_get_dec
      have big : (List.range (qs.length + 1)).length ≤ line := by rw [List.length_range]; exact Nat.le_trans (show _ ≤ 100 by omega) (by decide)
      refine ⟨_, rfl, ?_⟩
      refine lc_mapF _ (fun s => .list (tab (qs.length + 1) (dp s))) big (fun s hs S6 f6 _ => ?_) fun S6 f6 => ?_
      · rw [ok_lcT]
        refine ⟨_, rfl, ?_⟩
        try array_get_dec
        exact Fr.refl _ _
      have g6 := (f5.trans f6).get gc1 (by simp)
      refine ⟨_, _, setA_new g6 rfl rfl, ?_⟩
      have g7 := get_set (c' := .inst 0 ([] ++ [.list ((List.range (qs.length + 1)).map (rowT qs))] ++ [.list ((List.range (qs.length + 1)).map fun s => .list (tab (qs.length + 1) (dp s)))])) g6
      refine ⟨_, rfl, ?_⟩
      refine lc_mapF _ (fun s => .list (tab (qs.length + 1) (nx s))) big (fun s hs S8 f8 _ => ?_) fun S8 f8 => ?_
      · rw [ok_lcT]
        refine ⟨_, rfl, ?_⟩
        try array_get_dec
        exact Fr.refl _ _
      have g8 := f8.get g7 (by simp)
      refine ⟨_, _, setA_new g8 rfl rfl, get_set g8, ?_⟩
      refine ((((f4.trans ((f5.trans f6).sub (by simp))).trans (Fr.set (by simp))).trans (f8.sub (by simp))).trans (Fr.set (by simp)))
/-- making an object, given up as a value -/
theorem ok_mkM {P : Prog} {Φ : Call} {c f : Nat} {vs zs : List D} {ks : List Str} {S : Store} {Q : D → Store → Prop} {E : D → Store → Prop} (h : P.init c = some f)
    (h2 : Ok (callM P Φ f (.ref S.length :: vs) ks zs (S ++ [.inst c []])) (fun r S' => r = .none ∧ ∃ fs, S'[S.length]? = some (.inst c fs) ∧ Q (.obj c fs) (S'.set S.length .dead)) E) : Ok (mkM P Φ true c vs ks zs S) Q E := by
  unfold mkM
  rw [h]
  dsimp only
  cases q : callM P Φ f (.ref S.length :: vs) ks zs (S ++ [.inst c []]) with
  | ok a S' =>
    rw [q] at h2
    obtain ⟨rfl, fs, h3, h4⟩ := h2
    simp only [if_true]
    rw [ok_eff]
    refine ⟨_, _, ?_, h4⟩
    unfold freeze
    simp only [h3]
  | exc e S' => rw [q] at h2; exact h2
  | bad => rw [q] at h2; exact h2.elim
theorem t_of (n0 : Nat) (S : Store) (qs : List (Nat × Nat)) {nx dp : Nat → Nat → Nat} (T : IsTree (qs.length + 1) (adjOf qs) nx dp) (hl : qs.length ≤ 99) (hnd : qs.Nodup) (hsw : ∀ a b, (a, b) ∈ qs → (b, a) ∉ qs) (hrn : ∀ i, (rowOf qs i).Nodup) :
    Ok (callM Tt.T.prog (run Tt.T.prog (n0 + 5)) i_Railway_of [.cls 0, .tup (qs.map pairD)] [] [] S) (fun r S' => r = railD qs nx dp ∧ Fr [] S S') Mi.nx := by
  generalize hd : D.tup (qs.map pairD) = dd
  refine ok_fn (fn := f_Railway_of) (ds := [.cls 0, dd]) rfl rfl ?_
  unfold f_Railway_of
  array_get_dec
  subst hd
  simp only [isi_tt]
  array_get_dec
  refine ⟨0, rfl, _, rfl, ?_⟩
  refine ok_mkM (f := i_Railway_init) rfl ?_
  refine (t_init n0 (S ++ [.inst 0 []]) qs T hl hnd hsw hrn S.length get_new).mono fun r S1 q => ?_
  obtain ⟨rfl, h, f⟩ := q
  exact ⟨rfl, _, h, rfl, Fr.setNew ((Fr.app [S.length] S [Cell.inst 0 []]).trans f |>.sub (by simp)) (Nat.le_refl _)⟩
end Mi
set_option Elab.async false
set_option linter.all false
set_option maxRecDepth 100000
namespace Mi
open PySem L2 Tt
local macro_rules | `(tactic| array_get_dec) => `(tactic| simp only [wipeD, ok_exs, ok_exs0, go_next, go_ret, go_brk, go_cont, ok_sex, ok_ret, ok_set, ok_par, ok_seti, ok_seta, ok_site, ok_for, ok_pass, ok_brk, ok_cont, ok_v, ok_c, ok_g, ok_tup, ok_list, ok_mlist, ok_mdict, ok_mdictT, ok_edict, ok_bin, ok_mulm, ok_addm, ok_rngm, ok_neg, ok_cmp, ok_eqE, ok_cmp2, ok_isN, ok_isB, ok_not, ok_eite, ok_ix, ok_sl, ok_slm, ok_vals, ok_rev, ok_attr, ok_cattr, ok_call, ok_bc, ok_isi, ok_meth, ok_bm, ok_cm, ok_mk, ok_mkv, ok_mkx, ok_cs, ok_cmv, ok_lc2, ok_raise, ok_try, ok_fz, ok_lc, ok_evs0, ok_evs1, ok_evsS, ok_and, ok_or, ok_and1, ok_and2, ok_or1, ok_or2, ok_t0, ok_t1, ok_bind, ok_truth, b_add, b_sub, b_mul, b_fdiv, b_mod, b_pow, b_tup, b_list, ite_some, c_lt, c_le, c_gt, c_ge, c_eq, c_ne, eq_int, eq_str, Option.map_some, ix_list, ix_tup, len_list, len_tup, asg_n, asg_t, asgs_0, asgs_1, List.map_cons, List.map_nil, List.length_cons, List.length_nil, List.replicate_succ, List.replicate_zero, List.cons_append, List.nil_append, List.append_nil, Nat.reduceAdd, Nat.reduceSub, Nat.reduceLT, Nat.zero_add, Nat.lt_add_one, Nat.zero_lt_succ, Nat.succ_pos, List.set_cons_zero, List.set_cons_succ, List.getElem?_cons_zero, List.getElem?_cons_succ, Option.bind_some, Option.some.injEq, D.bool.injEq, D.int.injEq, exists_eq_left', exists_eq_left, exists_eq_right, exists_eq_right', exists_and_left, and_true, true_and, if_true, ne_eq, reduceCtorEq, not_false_eq_true, implies_true, if_pos, partE, exists_const, and_assoc, Prod.mk.injEq, if_false, Int.reduceToNat, Int.reducePow, Nat.reducePow, Int.reduceLT, Int.reduceLE, Int.reduceNeg, Int.reduceAdd, Int.reduceSub, Int.reduceMul, decide_eq_true_eq])
theorem ok_same {α : Type} {r : Res α} {d : α} {S : Store} (h : Ok r (fun a S' => a = d ∧ S' = S) Mi.nx) : r = .ok d S := by
  cases r with
  | ok a S' => obtain ⟨rfl, rfl⟩ := h; rfl
  | exc e S' => exact h.elim
  | bad => exact h.elim
theorem isi1 {P : Prog} {S : Store} {v : D} {k n : String} (h : kindOf S v = some k) (hn : n ∈ kinds) : isTys P S v [.b n] = some (subB k n) := by
  unfold isTys isTy
  simp only [if_pos hn, h, Option.map_some]
  cases subB k n <;> rfl
def isI : D → Bool
  | .int _ => true
  | _ => false
theorem kind_int {S : Store} {v : D} {k : String} (h : kindOf S v = some k) : (subB k "int" && !subB k "bool") = isI v := by
  cases v with
  | ref n =>
    unfold kindOf at h
    dsimp only at h
    split at h <;> first | (cases h; rfl) | cases h
  | dict ks vs =>
    cases ks with
    | nil => cases h; rfl
    | cons k ks => cases h
  | _ => first | (cases h; rfl) | cases h
theorem t_isint {n0 : Nat} {S : Store} {v : D} {k : String} (h : kindOf S v = some k) : callM Tt.T.prog (run Tt.T.prog (n0 + 1)) i_is_integer [v] [] [] S = .ok (.bool (isI v)) S := by
  rw [← kind_int h]
  refine ok_same (ok_fn (fn := f_is_integer) (ds := [v]) rfl rfl ?_)
  unfold f_is_integer
  array_get_dec
  simp only [isi1 h (show "int" ∈ kinds by decide), isi1 h (show "bool" ∈ kinds by decide)]
  array_get_dec
  cases subB k "int" <;> simp
/-- a station -/
def stB (n : Nat) : D → Bool
  | .int i => decide (0 ≤ i) && decide (i < n)
  | _ => false
theorem stB_int {n : Nat} {i : Int} : stB n (.int i) = (decide (0 ≤ i) && decide (i < n)) := rfl
theorem stB_isI {n : Nat} {v : D} (h : isI v = false) : stB n v = false := by
  cases v <;> first | rfl | cases h
section
variable {qs : List (Nat × Nat)} {nx dp : Nat → Nat → Nat}
theorem len_links {S : Store} : bfn .len S [.list ((List.range (qs.length + 1)).map (rowT qs))] = some (.int ((qs.length + 1 : Nat) : Int)) := by
  rw [len_list]
  simp
theorem tabs_at {l : Nat} {f : Nat → D} {i : Nat} (h : i < l) : atI ((List.range l).map f) (i : Int) = some (f i) := by
  rw [atI_nat, List.getElem?_map, List.getElem?_range h]
  rfl
end
theorem call_as {P : Prog} {Φ : Call} {f : Nat} {fn : Fn} {vs zs ds : List D} {ks : List Str} {S : Store} (h : P.fn f = some fn) (h2 : bindF fn vs ks zs = some ds) (h3 : bindF fn ds [] [] = some ds) : callM P Φ f vs ks zs S = callM P Φ f ds [] [] S := by
  unfold callM
  simp only [h, h2, h3]
end Mi
set_option Elab.async false
set_option linter.all false
set_option maxRecDepth 100000
namespace Mi
open PySem L2 Tt
local macro_rules | `(tactic| array_get_dec) => `(tactic| simp only [wipeD, ok_exs, ok_exs0, go_next, go_ret, go_brk, go_cont, ok_sex, ok_ret, ok_set, ok_par, ok_seti, ok_seta, ok_site, ok_for, ok_pass, ok_brk, ok_cont, ok_v, ok_c, ok_g, ok_tup, ok_list, ok_mlist, ok_mdict, ok_mdictT, ok_edict, ok_bin, ok_mulm, ok_addm, ok_rngm, ok_neg, ok_cmp, ok_eqE, ok_cmp2, ok_isN, ok_isB, ok_not, ok_eite, ok_ix, ok_sl, ok_slm, ok_vals, ok_rev, ok_attr, ok_cattr, ok_call, ok_bc, ok_isi, ok_meth, ok_bm, ok_cm, ok_mk, ok_mkv, ok_mkx, ok_cs, ok_cmv, ok_lc2, ok_raise, ok_try, ok_fz, ok_lc, ok_evs0, ok_evs1, ok_evsS, ok_and, ok_or, ok_and1, ok_and2, ok_or1, ok_or2, ok_t0, ok_t1, ok_bind, ok_truth, b_add, b_sub, b_mul, b_fdiv, b_mod, b_pow, b_tup, b_list, ite_some, c_lt, c_le, c_gt, c_ge, c_eq, c_ne, eq_int, eq_str, Option.map_some, ix_list, ix_tup, len_list, len_tup, asg_n, asg_t, asgs_0, asgs_1, List.map_cons, List.map_nil, List.length_cons, List.length_nil, List.replicate_succ, List.replicate_zero, List.cons_append, List.nil_append, List.append_nil, Nat.reduceAdd, Nat.reduceSub, Nat.reduceLT, Nat.zero_add, Nat.lt_add_one, Nat.zero_lt_succ, Nat.succ_pos, List.set_cons_zero, List.set_cons_succ, List.getElem?_cons_zero, List.getElem?_cons_succ, Option.bind_some, Option.some.injEq, D.bool.injEq, D.int.injEq, exists_eq_left', exists_eq_left, exists_eq_right, exists_eq_right', exists_and_left, and_true, true_and, if_true, ne_eq, reduceCtorEq, not_false_eq_true, implies_true, if_pos, partE, exists_const, and_assoc, Prod.mk.injEq, if_false, Int.reduceToNat, Int.reducePow, Nat.reducePow, Int.reduceLT, Int.reduceLE, Int.reduceNeg, Int.reduceAdd, Int.reduceSub, Int.reduceMul, decide_eq_true_eq])
theorem ok_fr {r : Res D} {d : D} {S : Store} {Q : D → Store → Prop} {E : D → Store → Prop} (h : Ok r (fun a S' => a = d ∧ Fr [] S S') Mi.nx) (k : ∀ S', Fr [] S S' → Q d S') : Ok r Q E :=
  h.mono fun a S' q => by obtain ⟨rfl, f⟩ := q; exact k S' f
theorem ok_dr {r : Res D} {d : D} {S : Store} {Q : D → Store → Prop} {E : D → Store → Prop} (h : r = .ok d S) (k : Q d S) : Ok r Q E := by rw [h]; exact k
theorem ok_getQ {P : Prog} {Φ : Call} {c g : Nat} {f : Str} {fs : List D} {S : Store} {Q : D → Store → Prop} {E : D → Store → Prop} (ha : P.attr c f = some (.prop g)) : Ok (getA P Φ (.obj c fs) f S) Q E = Ok (callM P Φ g [.obj c fs] [] [] S) Q Mi.nx := by
  unfold getA getI clsOf
  simp only [ha]
  exact ok_calm
section
variable {qs : List (Nat × Nat)} {nx dp : Nat → Nat → Nat}
theorem stB_nat {n i : Nat} (h : i < n) : stB n (.int i) = true := by rw [stB_int]; simp; omega
theorem ok_getP {P : Prog} {Φ : Call} {c g : Nat} {f : Str} {fs : List D} {v : D} {S : Store} {Q : D → Store → Prop} {E : D → Store → Prop} (ha : P.attr c f = some (.prop g)) (hv : callM P Φ g [.obj c fs] [] [] S = .ok v S) : Ok (getA P Φ (.obj c fs) f S) Q E = Q v S := by
  unfold getA getI clsOf
  simp only [ha]
  rw [ok_calm, hv]
  rfl
end
end Mi
set_option Elab.async false
set_option linter.all false
set_option maxRecDepth 100000
namespace Mi
open PySem L2 Tt
local macro_rules | `(tactic| array_get_dec) => `(tactic| simp only [wipeD, ok_exs, ok_exs0, go_next, go_ret, go_brk, go_cont, ok_sex, ok_ret, ok_set, ok_par, ok_seti, ok_seta, ok_site, ok_for, ok_pass, ok_brk, ok_cont, ok_v, ok_c, ok_g, ok_tup, ok_list, ok_mlist, ok_mdict, ok_mdictT, ok_edict, ok_bin, ok_mulm, ok_addm, ok_rngm, ok_neg, ok_cmp, ok_eqE, ok_cmp2, ok_isN, ok_isB, ok_not, ok_eite, ok_ix, ok_sl, ok_slm, ok_vals, ok_rev, ok_attr, ok_cattr, ok_call, ok_bc, ok_isi, ok_meth, ok_bm, ok_cm, ok_mk, ok_mkv, ok_mkx, ok_cs, ok_cmv, ok_lc2, ok_raise, ok_try, ok_fz, ok_lc, ok_evs0, ok_evs1, ok_evsS, ok_and, ok_or, ok_and1, ok_and2, ok_or1, ok_or2, ok_t0, ok_t1, ok_bind, ok_truth, b_add, b_sub, b_mul, b_fdiv, b_mod, b_pow, b_tup, b_list, ite_some, c_lt, c_le, c_gt, c_ge, c_eq, c_ne, eq_int, eq_str, Option.map_some, ix_list, ix_tup, len_list, len_tup, asg_n, asg_t, asgs_0, asgs_1, List.map_cons, List.map_nil, List.length_cons, List.length_nil, List.replicate_succ, List.replicate_zero, List.cons_append, List.nil_append, List.append_nil, Nat.reduceAdd, Nat.reduceSub, Nat.reduceLT, Nat.zero_add, Nat.lt_add_one, Nat.zero_lt_succ, Nat.succ_pos, List.set_cons_zero, List.set_cons_succ, List.getElem?_cons_zero, List.getElem?_cons_succ, Option.bind_some, Option.some.injEq, D.bool.injEq, D.int.injEq, exists_eq_left', exists_eq_left, exists_eq_right, exists_eq_right', exists_and_left, and_true, true_and, if_true, ne_eq, reduceCtorEq, not_false_eq_true, implies_true, if_pos, partE, exists_const, and_assoc, Prod.mk.injEq, if_false, Int.reduceToNat, Int.reducePow, Nat.reducePow, Int.reduceLT, Int.reduceLE, Int.reduceNeg, Int.reduceAdd, Int.reduceSub, Int.reduceMul, decide_eq_true_eq])
section
variable {qs : List (Nat × Nat)} {nx dp : Nat → Nat → Nat}
theorem t_size {n0 : Nat} {S : Store} : callM Tt.T.prog (run Tt.T.prog (n0 + 1)) i_Railway_size [railD qs nx dp] [] [] S = .ok (.int ((qs.length + 1 : Nat) : Int)) S := by
  generalize hd : railD qs nx dp = dd
  refine ok_same (ok_fn (fn := f_Railway_size) (ds := [dd]) rfl rfl ?_)
  unfold f_Railway_size
  subst hd
  array_get_dec
  rw [ok_getO (k := 0) rfl rfl, len_links]
  simp
end
end Mi
set_option Elab.async false
set_option linter.all false
namespace Mi
namespace IsTree
variable {n : Nat} {adj : Nat → Nat → Prop} {nx dp : Nat → Nat → Nat} {s v u w m : Nat}
theorem dp0 (T : IsTree n adj nx dp) (hs : s < n) (hv : v < n) : dp s v = 0 ↔ v = s := by
  constructor
  · intro h
    rcases Nat.decEq v s with q | q
    · have := T.dpnx s v hs hv q; omega
    · exact q
  · intro h; subst h; exact T.dps v hs
/-- an edge leads one up or one down -/
theorem edge (T : IsTree n adj nx dp) (hs : s < n) (h : adj u w) : (nx s u = w ∧ u ≠ s ∧ dp s u = dp s w + 1) ∨ (nx s w = u ∧ w ≠ s ∧ dp s w = dp s u + 1) := by
  obtain ⟨hu, hw⟩ := T.lt _ _ h
  rcases T.t1 s u w hs h with e | e
  · have hne : u ≠ s := fun z => by rw [z, T.nxs s hs] at e; exact T.irr _ _ h (by rw [z]; exact e)
    exact .inl ⟨e, hne, by rw [T.dpnx s u hs hu hne, e]⟩
  · have hne : w ≠ s := fun z => by rw [z, T.nxs s hs] at e; exact T.irr _ _ h (by rw [z]; exact e.symm)
    exact .inr ⟨e, hne, by rw [T.dpnx s w hs hw hne, e]⟩
theorem nx_adj (T : IsTree n adj nx dp) (h : adj u w) : nx u w = u := by
  obtain ⟨hu, hw⟩ := T.lt _ _ h
  rcases T.t1 u u w hu h with e | e
  · rw [T.nxs u hu] at e; exact absurd e (T.irr _ _ h)
  · exact e
theorem dp_adj (T : IsTree n adj nx dp) (h : adj u w) : dp u w = 1 := by
  obtain ⟨hu, hw⟩ := T.lt _ _ h
  rw [T.dpnx u w hu hw (Ne.symm (T.irr _ _ h)), T.nx_adj h, T.dps u hu]
theorem adj_of_one (T : IsTree n adj nx dp) (hs : s < n) (hv : v < n) (h : dp s v = 1) : adj s v := by
  have hne : v ≠ s := fun z => by rw [(T.dp0 hs hv).mpr z] at h; omega
  have h1 := T.dpnx s v hs hv hne
  have h2 : nx s v = s := (T.dp0 hs (T.nxlt s v hs hv)).mp (by omega)
  have := T.nxadj s v hs hv hne
  rw [h2] at this
  exact T.sym _ _ this
theorem tri (T : IsTree n adj nx dp) (hs : s < n) (hm : m < n) : ∀ k v, dp m v = k → v < n → dp s v ≤ dp s m + dp m v := by
  intro k
  induction k with
  | zero =>
    intro v hk hv
    rw [(T.dp0 hm hv).mp hk]
    omega
  | succ k ih =>
    intro v hk hv
    have hne : v ≠ m := fun z => by rw [(T.dp0 hm hv).mpr z] at hk; omega
    have h1 := T.dpnx m v hm hv hne
    have hw := T.nxlt m v hm hv
    have h2 := ih (nx m v) (by omega) hw
    rcases T.edge hs (T.nxadj m v hm hv hne) with ⟨_, _, e⟩ | ⟨_, _, e⟩ <;> omega
theorem triangle (T : IsTree n adj nx dp) (hs : s < n) (hm : m < n) (hv : v < n) : dp s v ≤ dp s m + dp m v := T.tri hs hm _ v rfl hv
/-- m stands between s and v -/
def Bt (dp : Nat → Nat → Nat) (s m v : Nat) : Prop := dp s v = dp s m + dp m v
theorem Bt.symm (T : IsTree n adj nx dp) (hs : s < n) (hm : m < n) (hv : v < n) (h : Bt dp s m v) : Bt dp v m s := by
  unfold Bt at *
  rw [T.dp_sym hv hs, T.dp_sym hv hm, T.dp_sym hm hs]
  omega
theorem nx_bt (T : IsTree n adj nx dp) (hs : s < n) (hm : m < n) (hw : w < n) (h : Bt dp s m w) (hne : w ≠ m) : nx s w = nx m w := by
  unfold Bt at h
  have h1 := T.dpnx m w hm hw hne
  have hx := T.nxlt m w hm hw
  have h2 := T.triangle hs hm hx
  rcases T.edge hs (T.nxadj m w hm hw hne) with ⟨e, _, _⟩ | ⟨_, _, e⟩
  · exact e
  · omega
/-- what comes between: the first steps from m differ -/
theorem bt_iff (T : IsTree n adj nx dp) (hs : s < n) (hm : m < n) (hsm : s ≠ m) : ∀ k v, dp m v = k → v < n → v ≠ m → (Bt dp s m v ↔ nx s m ≠ nx v m) := by
  intro k
  induction k with
  | zero =>
    intro v hk hv hne
    exact absurd ((T.dp0 hm hv).mp hk) hne
  | succ k ih =>
    intro v hk hv hne
    constructor
    · intro hb e
      unfold Bt at hb
      have h1 := T.dpnx s m hs hm (Ne.symm hsm)
      have h2 := T.dpnx v m hv hm (Ne.symm hne)
      have hw := T.nxlt s m hs hm
      have h3 := T.triangle hs hw hv
      rw [← e] at h2
      rw [T.dp_sym hm hv] at hb
      rw [T.dp_sym hw hv] at h3
      omega
    · intro hd
      unfold Bt
      have h1 := T.dpnx m v hm hv hne
      have hw := T.nxlt m v hm hv
      have ha := T.nxadj m v hm hv hne
      rcases Nat.decEq (nx m v) m with q | q
      · have hwv : nx v m ≠ nx m v ∨ True := .inr trivial
        have hnv : nx v m = nx v m := rfl
        have ih2 := (ih (nx m v) (by omega) hw q).mpr
        have hf : nx v m = nx (nx m v) m := T.first hm hw hv q hne rfl
        have hb := ih2 (by rw [← hf]; exact hd)
        have hx := T.nx_bt hs hm hw hb q
        unfold Bt at hb
        rcases T.edge hs ha with ⟨_, _, e⟩ | ⟨e, _, e2⟩
        · omega
        · rw [hx] at e
          have h4 := T.dpnx m (nx m v) hm hw q
          rw [e] at h4
          omega
      · rw [q] at ha h1
        have hvm : nx v m = v := T.nx_adj ha
        rw [hvm] at hd
        rw [T.dps m hm] at h1
        rcases T.edge hs ha with ⟨_, _, e⟩ | ⟨e, _, _⟩
        · omega
        · exact absurd e hd
theorem between (T : IsTree n adj nx dp) (hs : s < n) (hm : m < n) (hv : v < n) (hsm : s ≠ m) (hvm : v ≠ m) : Bt dp s m v ↔ nx s m ≠ nx v m := T.bt_iff hs hm hsm _ v rfl hv hvm
/-- two neighbours lie on the same side of m -/
theorem same_side (T : IsTree n adj nx dp) (hm : m < n) (h : adj u w) (hu : u ≠ m) (hw : w ≠ m) : nx u m = nx w m := by
  obtain ⟨hul, hwl⟩ := T.lt _ _ h
  rcases T.t1 m u w hm h with e | e
  · exact T.first hm hwl hul hw hu e
  · exact (T.first hm hul hwl hu hw e).symm
/-- a search from m that does not go towards s -/
theorem behind_all (T : IsTree n adj nx dp) (hm : m < n) (hs : s < n) (hsm : s ≠ m) {l : List Nat} (h0 : m ∈ l) (hc : ∀ u ∈ l, ∀ w, adj u w → (u ≠ m ∨ w ≠ nx s m) → w ∈ l) : ∀ k v, dp m v = k → v < n → (v = m ∨ nx s m ≠ nx v m) → v ∈ l := by
  intro k
  induction k with
  | zero =>
    intro v hk hv _
    rw [(T.dp0 hm hv).mp hk]
    exact h0
  | succ k ih =>
    intro v hk hv hb
    have hne : v ≠ m := fun z => by rw [(T.dp0 hm hv).mpr z] at hk; omega
    have h1 := T.dpnx m v hm hv hne
    have hw := T.nxlt m v hm hv
    have ha := T.nxadj m v hm hv hne
    have hb2 : nx s m ≠ nx v m := hb.resolve_left hne
    rcases Nat.decEq (nx m v) m with q | q
    · have hf : nx v m = nx (nx m v) m := T.first hm hw hv q hne rfl
      refine hc (nx m v) (ih _ (by omega) hw (.inr (by rw [← hf]; exact hb2))) v (T.sym _ _ ha) (.inl q)
    · rw [q] at ha
      have hvm : nx v m = v := T.nx_adj ha
      rw [hvm] at hb2
      exact hc m h0 v (T.sym _ _ ha) (.inr (Ne.symm hb2))
end IsTree
end Mi
set_option Elab.async false
set_option linter.all false
set_option maxRecDepth 100000
namespace Mi
open PySem L2 Tt
/-- tracks of a railway -/
structure Rail (qs : List (Nat × Nat)) (nx dp : Nat → Nat → Nat) : Prop where
  T : IsTree (qs.length + 1) (adjOf qs) nx dp
  nd : qs.Nodup
  sw : ∀ a b, (a, b) ∈ qs → (b, a) ∉ qs
  rn : ∀ i, (rowOf qs i).Nodup
  lt : ∀ p ∈ qs, p.1 < qs.length + 1 ∧ p.2 < qs.length + 1 ∧ p.1 ≠ p.2
theorem Grown.nodup {ps : List (Nat × Nat)} (h : Grown ps) : ps.Nodup ∧ ∀ a b, (a, b) ∈ ps → (b, a) ∉ ps := by
  induction h with
  | nil => exact ⟨List.nodup_nil, fun a b h => by simp at h⟩
  | @fore ps b hg hb ih =>
    have hlt := Grown.lt hg
    refine ⟨List.nodup_append.mpr ⟨ih.1, by simp, fun x hx y hy => ?_⟩, fun a c h => ?_⟩
    · have e : y = (b, ps.length + 1) := by simpa using hy
      subst e
      intro z
      subst z
      have := hlt _ hx
      simp at this
    · intro z
      rcases List.mem_append.mp h with h | h <;> rcases List.mem_append.mp z with z | z
      · exact ih.2 a c h z
      · have e : c = b ∧ a = ps.length + 1 := by simpa using z
        have := hlt _ h
        simp at this
        omega
      · have e : a = b ∧ c = ps.length + 1 := by simpa using h
        have := hlt _ z
        simp at this
        omega
      · have e : a = b ∧ c = ps.length + 1 := by simpa using h
        have e2 : c = b ∧ a = ps.length + 1 := by simpa using z
        omega
  | @back ps b hg hb ih =>
    have hlt := Grown.lt hg
    refine ⟨List.nodup_append.mpr ⟨ih.1, by simp, fun x hx y hy => ?_⟩, fun a c h => ?_⟩
    · have e : y = (ps.length + 1, b) := by simpa using hy
      subst e
      intro z
      subst z
      have := hlt _ hx
      simp at this
    · intro z
      rcases List.mem_append.mp h with h | h <;> rcases List.mem_append.mp z with z | z
      · exact ih.2 a c h z
      · have e : c = ps.length + 1 ∧ a = b := by simpa using z
        have := hlt _ h
        simp at this
        omega
      · have e : a = ps.length + 1 ∧ c = b := by simpa using h
        have := hlt _ z
        simp at this
        omega
      · have e : a = ps.length + 1 ∧ c = b := by simpa using h
        have e2 : c = ps.length + 1 ∧ a = b := by simpa using z
        omega
theorem Rail.perm {ps qs : List (Nat × Nat)} (h : Grown ps) (hp : qs.Perm ps) (hr : ∀ i, (rowOf qs i).Perm (rowOf ps i)) : ∃ nx dp, Rail qs nx dp := by
  obtain ⟨nx, dp, T⟩ := tree_of h
  obtain ⟨n1, n2⟩ := h.nodup
  have hl := hp.length_eq
  refine ⟨nx, dp, ?_, hp.nodup_iff.mpr n1, fun a b h1 h2 => n2 a b (hp.mem_iff.mp h1) (hp.mem_iff.mp h2), fun i => (hr i).nodup_iff.mpr (h.row i), fun p hpq => ?_⟩
  · rw [adj_perm hp, hl]
    exact T
  · rw [hl]
    exact h.lt p (hp.mem_iff.mp hpq)
theorem Rail.turn {ps : List (Nat × Nat)} (h : Grown ps) (k : Nat) : ∃ nx dp, Rail (ps.drop k ++ ps.take k) nx dp := Rail.perm h (turn_perm ps k) fun i => row_turn ps k i
end Mi
set_option Elab.async false
set_option linter.all false
set_option maxRecDepth 100000
namespace Mi
open PySem L2 Tt IsTree
local macro_rules | `(tactic| array_get_dec) => `(tactic| simp only [wipeD, ok_exs, ok_exs0, go_next, go_ret, go_brk, go_cont, ok_sex, ok_ret, ok_set, ok_par, ok_seti, ok_seta, ok_site, ok_for, ok_pass, ok_brk, ok_cont, ok_v, ok_c, ok_g, ok_tup, ok_list, ok_mlist, ok_mdict, ok_mdictT, ok_edict, ok_bin, ok_mulm, ok_addm, ok_rngm, ok_neg, ok_cmp, ok_eqE, ok_cmp2, ok_isN, ok_isB, ok_not, ok_eite, ok_ix, ok_sl, ok_slm, ok_vals, ok_rev, ok_attr, ok_cattr, ok_call, ok_bc, ok_isi, ok_meth, ok_bm, ok_cm, ok_mk, ok_mkv, ok_mkx, ok_cs, ok_cmv, ok_lc2, ok_raise, ok_try, ok_fz, ok_lc, ok_evs0, ok_evs1, ok_evsS, ok_and, ok_or, ok_and1, ok_and2, ok_or1, ok_or2, ok_t0, ok_t1, ok_bind, ok_truth, b_add, b_sub, b_mul, b_fdiv, b_mod, b_pow, b_tup, b_list, ite_some, c_lt, c_le, c_gt, c_ge, c_eq, c_ne, eq_int, eq_str, Option.map_some, ix_list, ix_tup, len_list, len_tup, asg_n, asg_t, asgs_0, asgs_1, List.map_cons, List.map_nil, List.length_cons, List.length_nil, List.replicate_succ, List.replicate_zero, List.cons_append, List.nil_append, List.append_nil, Nat.reduceAdd, Nat.reduceSub, Nat.reduceLT, Nat.zero_add, Nat.lt_add_one, Nat.zero_lt_succ, Nat.succ_pos, List.set_cons_zero, List.set_cons_succ, List.getElem?_cons_zero, List.getElem?_cons_succ, Option.bind_some, Option.some.injEq, D.bool.injEq, D.int.injEq, exists_eq_left', exists_eq_left, exists_eq_right, exists_eq_right', exists_and_left, and_true, true_and, if_true, ne_eq, reduceCtorEq, not_false_eq_true, implies_true, if_pos, partE, exists_const, and_assoc, Prod.mk.injEq, if_false, Int.reduceToNat, Int.reducePow, Nat.reducePow, Int.reduceLT, Int.reduceLE, Int.reduceNeg, Int.reduceAdd, Int.reduceSub, Int.reduceMul, decide_eq_true_eq])
/-- the stations behind m, seen from s -/
def behL (n : Nat) (dp : Nat → Nat → Nat) (m s : Nat) : List Nat := (List.range n).filter fun v => decide (dp s v = dp s m + dp m v)
def mxs (l : List Nat) : Nat := l.foldl max 0
def dpth (n : Nat) (dp : Nat → Nat → Nat) (m s : Nat) : Nat := mxs ((behL n dp m s).map (dp m))
theorem maxI_nat : ∀ l : List Nat, ∀ a : Nat, (l.map fun i : Nat => (i : Int)).foldl (fun m y => if m < y then y else m) (a : Int) = ((l.foldl max a : Nat) : Int)
  | [], a => rfl
  | x :: l, a => by
    rw [List.map_cons, List.foldl_cons, List.foldl_cons, ← maxI_nat l]
    congr 1
    by_cases h : (a : Int) < (x : Int)
    · rw [if_pos h]; omega
    · rw [if_neg h]; omega
theorem ints_nat : ∀ l : List Nat, intsOf (l.map natD) = some (l.map fun i : Nat => (i : Int))
  | [] => rfl
  | x :: l => by
    rw [List.map_cons]
    unfold intsOf
    rw [ints_nat l]
    rfl
theorem max1_nat {S : Store} {l : List Nat} (h : l ≠ []) : bfn .max1 S [.list (l.map natD)] = some (.int (mxs l)) := by
  show ((((listOf S (.list (l.map natD))).bind intsOf).bind maxI).map D.int) = _
  show (((intsOf (l.map natD)).bind maxI).map D.int) = _
  rw [ints_nat]
  cases l with
  | nil => exact absurd rfl h
  | cons x l =>
    show some (D.int ((l.map fun i : Nat => (i : Int)).foldl (fun m y => if m < y then y else m) (x : Int))) = _
    rw [maxI_nat]
    unfold mxs
    rw [List.foldl_cons, Nat.zero_max]
theorem mxs_ge : ∀ (l : List Nat) (a x : Nat), x ∈ l ∨ x ≤ a → x ≤ l.foldl max a
  | [], a, x, h => h.elim (fun h => by simp at h) id
  | y :: l, a, x, h => by
    rw [List.foldl_cons]
    refine mxs_ge l _ x ?_
    rcases h with h | h
    · rcases List.mem_cons.mp h with rfl | h
      · exact .inr (Nat.le_max_right _ _)
      · exact .inl h
    · exact .inr (Nat.le_trans h (Nat.le_max_left _ _))
theorem mxs_le : ∀ (l : List Nat) (a b : Nat), a ≤ b → (∀ x ∈ l, x ≤ b) → l.foldl max a ≤ b
  | [], a, b, h, _ => h
  | y :: l, a, b, h, h2 => by
    rw [List.foldl_cons]
    exact mxs_le l _ b (Nat.max_le.mpr ⟨h, h2 y (by simp)⟩) fun x hx => h2 x (by simp [hx])
theorem mxs_mem : ∀ (l : List Nat) (a : Nat), l.foldl max a = a ∨ l.foldl max a ∈ l
  | [], a => .inl rfl
  | y :: l, a => by
    rw [List.foldl_cons]
    rcases mxs_mem l (max a y) with h | h
    · rw [h]
      by_cases q : a ≤ y
      · have e : max a y = y := Nat.max_eq_right q
        rw [e]; exact .inr (by simp)
      · have e : max a y = a := Nat.max_eq_left (by omega)
        exact .inl e
    · exact .inr (by simp [h])
theorem gaps_row {n : Nat} {f : Nat → Nat → Nat} {s : Nat} (h : s < n) {S : Store} : ixop S (.list ((List.range n).map fun s => .list (tab n (f s)))) (.int s) = some (.list (tab n (f s))) := by
  rw [ix_list]
  exact tabs_at h
theorem tab_ixL {n : Nat} {f : Nat → Nat} {s : Nat} (h : s < n) {S : Store} : ixop S (.list (tab n f)) (.int s) = some (.int (f s)) := by
  rw [ix_list]
  exact tab_at h
theorem pth_one {n : Nat} {adj : Nat → Nat → Prop} {nx dp : Nat → Nat → Nat} (T : IsTree n adj nx dp) {s v : Nat} (hs : s < n) (hv : v < n) (h : s ≠ v) : pth nx dp s v = s :: way nx dp v (nx v s) := by
  rw [T.pth_way hv hs, T.way_step hv hs h]
theorem way_head {n : Nat} {adj : Nat → Nat → Prop} {nx dp : Nat → Nat → Nat} (T : IsTree n adj nx dp) {s v : Nat} (hs : s < n) (hv : v < n) : ∃ l, way nx dp s v = v :: l := by
  rcases Nat.decEq v s with q | q
  · exact ⟨_, T.way_step hs hv q⟩
  · subst q; exact ⟨[], T.way_self hs⟩
theorem behL_mem {n : Nat} {adj : Nat → Nat → Prop} {nx dp : Nat → Nat → Nat} (T : IsTree n adj nx dp) {m s v : Nat} (hm : m < n) (hs : s < n) (h : s ≠ m) : v ∈ behL n dp m s ↔ v < n ∧ (v = m ∨ nx s m ≠ nx v m) := by
  unfold behL
  rw [List.mem_filter, List.mem_range, decide_eq_true_eq]
  refine and_congr_right fun hv => ?_
  rcases Nat.decEq v m with q | q
  · have := T.between hs hm hv h q
    unfold Bt at this
    rw [this]
    simp [q]
  · subst q
    rw [T.dps v hv]
    simp
theorem behL_asc (n : Nat) (dp : Nat → Nat → Nat) (m s : Nat) : (behL n dp m s).Pairwise (· < ·) := by
  unfold behL
  exact List.Pairwise.sublist List.filter_sublist List.pairwise_lt_range
theorem three_parts {α : Type} (p q : α → Bool) : ∀ l : List α, (∀ x ∈ l, ¬(p x = true ∧ q x = true)) → (l.filter p).length + (l.filter fun x => !p x && !q x).length + (l.filter q).length = l.length
  | [], _ => rfl
  | x :: l, h => by
    have ih := three_parts p q l fun y hy => h y (by simp [hy])
    have hx := h x (by simp)
    rw [List.filter_cons, List.filter_cons, List.filter_cons]
    cases hp : p x <;> cases hq : q x <;> simp [hp, hq] at hx ⊢ <;> omega
section
variable {qs : List (Nat × Nat)} {nx dp : Nat → Nat → Nat}
theorem behL_self (T : IsTree (qs.length + 1) (adjOf qs) nx dp) {m s : Nat} (hm : m < qs.length + 1) : m ∈ behL (qs.length + 1) dp m s := by
  unfold behL
  rw [List.mem_filter]
  exact ⟨List.mem_range.mpr hm, by rw [T.dps m hm]; simp⟩
theorem behL_len (n : Nat) (dp : Nat → Nat → Nat) (m s : Nat) : (behL n dp m s).length ≤ n := by
  have h := List.length_filter_le (fun v => decide (dp s v = dp s m + dp m v)) (List.range n)
  unfold behL
  simpa using h
end
section
variable {n : Nat} {adj : Nat → Nat → Prop} {nx dp : Nat → Nat → Nat} {m s : Nat}
theorem behL_apart (T : IsTree n adj nx dp) (hm : m < n) (hs : s < n) (h : m ≠ s) (v : Nat) : ¬(dp s v = dp s m + dp m v ∧ dp m v = dp m s + dp s v) := by
  rintro ⟨h1, h2⟩
  have h3 : dp s m = 0 := by omega
  exact h ((T.dp0 hs hm).mp h3)
theorem behL_count (T : IsTree n adj nx dp) (hm : m < n) (hs : s < n) (h : m ≠ s) : (behL n dp m s).length + ((List.range n).filter fun v => decide (v ∉ behL n dp m s) && decide (v ∉ behL n dp s m)).length + (behL n dp s m).length = n := by
  have e : ((List.range n).filter fun v => decide (v ∉ behL n dp m s) && decide (v ∉ behL n dp s m)) = ((List.range n).filter fun v => !decide (dp s v = dp s m + dp m v) && !decide (dp m v = dp m s + dp s v)) := by
    refine List.filter_congr fun v hv => ?_
    have e1 : ∀ m s, (v ∈ behL n dp m s) = (dp s v = dp s m + dp m v) := fun m s => by
      unfold behL
      rw [List.mem_filter, decide_eq_true_eq, eq_iff_iff]
      exact ⟨fun h => h.2, fun h => ⟨hv, h⟩⟩
    simp only [e1, decide_not]
  rw [e]
  have := three_parts (fun v => decide (dp s v = dp s m + dp m v)) (fun v => decide (dp m v = dp m s + dp s v)) (List.range n) fun v _ z => by
    simp only [decide_eq_true_eq] at z
    exact behL_apart T hm hs h v z
  rw [List.length_range] at this
  exact this
theorem dpth_at (T : IsTree n adj nx dp) (hm : m < n) (hs : s < n) : ∃ v, v ∈ behL n dp m s ∧ dp m v = dpth n dp m s := by
  have hself : m ∈ behL n dp m s := by
    unfold behL
    rw [List.mem_filter]
    exact ⟨List.mem_range.mpr hm, by rw [T.dps m hm]; simp⟩
  rcases mxs_mem ((behL n dp m s).map (dp m)) 0 with h | h
  · refine ⟨m, hself, ?_⟩
    rw [T.dps m hm]
    exact h.symm
  · obtain ⟨v, hv, e⟩ := List.mem_map.mp h
    exact ⟨v, hv, e⟩
theorem dpth_ge {v : Nat} (h : v ∈ behL n dp m s) : dp m v ≤ dpth n dp m s := mxs_ge _ 0 _ (.inl (List.mem_map.mpr ⟨v, h, rfl⟩))
theorem dpth_lt (T : IsTree n adj nx dp) (hm : m < n) : dpth n dp m s < n := by
  have : dpth n dp m s ≤ n - 1 := by
    refine mxs_le _ 0 _ (Nat.zero_le _) fun x hx => ?_
    obtain ⟨v, hv, rfl⟩ := List.mem_map.mp hx
    have := T.dplt m v hm (List.mem_range.mp (List.mem_filter.mp hv).1)
    omega
  omega
theorem behL_step (T : IsTree n adj nx dp) (hm : m < n) (hs : s < n) (h : m ≠ s) {v : Nat} (hv : v ∈ behL n dp m s) : v ∈ behL n dp (nx s m) s ∧ dp (nx s m) v = dp m v + 1 := by
  unfold behL at hv ⊢
  rw [List.mem_filter, decide_eq_true_eq] at hv ⊢
  have hvl := List.mem_range.mp hv.1
  have hx := T.nxlt s m hs hm
  have h1 := T.dpnx s m hs hm h
  have ha := T.nxadj s m hs hm h
  have h2 := T.dp_adj (T.sym _ _ ha)
  have h3 := T.triangle hs hx hvl
  have h4 := T.triangle hx hm hvl
  have := hv.2
  exact ⟨⟨hv.1, by omega⟩, by omega⟩
theorem dpth_grow (T : IsTree n adj nx dp) (hm : m < n) (hs : s < n) (h : m ≠ s) : dpth n dp m s + 1 ≤ dpth n dp (nx s m) s := by
  obtain ⟨v, hv, e⟩ := dpth_at T hm hs
  obtain ⟨h1, h2⟩ := behL_step T hm hs h hv
  rw [← e, ← h2]
  exact dpth_ge h1
end
end Mi
set_option Elab.async false
set_option linter.all false
set_option maxRecDepth 100000
namespace Mi
open PySem L2 Tt
local macro_rules | `(tactic| array_get_dec) => `(tactic| simp only [wipeD, ok_exs, ok_exs0, go_next, go_ret, go_brk, go_cont, ok_sex, ok_ret, ok_set, ok_par, ok_seti, ok_seta, ok_site, ok_for, ok_pass, ok_brk, ok_cont, ok_v, ok_c, ok_g, ok_tup, ok_list, ok_mlist, ok_mdict, ok_mdictT, ok_edict, ok_bin, ok_mulm, ok_addm, ok_rngm, ok_neg, ok_cmp, ok_eqE, ok_cmp2, ok_isN, ok_isB, ok_not, ok_eite, ok_ix, ok_sl, ok_slm, ok_vals, ok_rev, ok_attr, ok_cattr, ok_call, ok_bc, ok_isi, ok_meth, ok_bm, ok_cm, ok_mk, ok_mkv, ok_mkx, ok_cs, ok_cmv, ok_lc2, ok_raise, ok_try, ok_fz, ok_lc, ok_evs0, ok_evs1, ok_evsS, ok_and, ok_or, ok_and1, ok_and2, ok_or1, ok_or2, ok_t0, ok_t1, ok_bind, ok_truth, b_add, b_sub, b_mul, b_fdiv, b_mod, b_pow, b_tup, b_list, ite_some, c_lt, c_le, c_gt, c_ge, c_eq, c_ne, eq_int, eq_str, Option.map_some, ix_list, ix_tup, len_list, len_tup, asg_n, asg_t, asgs_0, asgs_1, List.map_cons, List.map_nil, List.length_cons, List.length_nil, List.replicate_succ, List.replicate_zero, List.cons_append, List.nil_append, List.append_nil, Nat.reduceAdd, Nat.reduceSub, Nat.reduceLT, Nat.zero_add, Nat.lt_add_one, Nat.zero_lt_succ, Nat.succ_pos, List.set_cons_zero, List.set_cons_succ, List.getElem?_cons_zero, List.getElem?_cons_succ, Option.bind_some, Option.some.injEq, D.bool.injEq, D.int.injEq, exists_eq_left', exists_eq_left, exists_eq_right, exists_eq_right', exists_and_left, and_true, true_and, if_true, ne_eq, reduceCtorEq, not_false_eq_true, implies_true, if_pos, partE, exists_const, and_assoc, Prod.mk.injEq, if_false, Int.reduceToNat, Int.reducePow, Nat.reducePow, Int.reduceLT, Int.reduceLE, Int.reduceNeg, Int.reduceAdd, Int.reduceSub, Int.reduceMul, decide_eq_true_eq])
section
variable {qs : List (Nat × Nat)} {nx dp : Nat → Nat → Nat}
theorem t_behL (n0 : Nat) (S : Store) (hl : qs.length ≤ 200) {m s : Nat} (hm : m < qs.length + 1) (hs : s < qs.length + 1) :
    Ok (callM Tt.T.prog (run Tt.T.prog (n0 + 2)) i_stations_behind [railD qs nx dp, .int m, .int s] [] [] S) (fun r S' => r = .list ((behL (qs.length + 1) dp m s).map natD) ∧ Fr [] S S') Mi.nx := by
  generalize hd : railD qs nx dp = dd
  refine ok_fn (fn := f_stations_behind) (ds := [dd, .int m, .int s]) rfl rfl ?_
  unfold f_stations_behind
  subst hd
  array_get_dec
  rw [ok_getO (k := 1) rfl rfl]
  simp only [gaps_row hs, gaps_row hm, tab_ixL hm, Option.some.injEq, exists_eq_left']
  rw [ok_getO (k := 1) rfl rfl]
  simp only [gaps_row hs, gaps_row hm, tab_ixL hm, Option.some.injEq, exists_eq_left']
  rw [ok_getO (k := 1) rfl rfl]
  simp only [gaps_row hs, gaps_row hm, tab_ixL hm, Option.some.injEq, exists_eq_left']
  refine ⟨by decide, ?_⟩
  rw [ok_getP rfl t_size]
  refine ⟨_, rng1_items (by omega) (by omega), ?_⟩
  rw [range0]
  refine lc_filF (fun i : Nat => D.int i) natD (fun v => decide (dp s v = dp s m + dp m v)) (by rw [List.length_range]; exact Nat.le_trans (show _ ≤ 300 by omega) (by decide)) (fun v hv S5 f5 _ => ?_) fun S5 f5 => ⟨rfl, f5⟩
  have hv := List.mem_range.mp hv
  rw [ok_lcT]
  refine ⟨_, rfl, ?_⟩
  array_get_dec
  simp only [tab_at hv, Option.some.injEq, exists_eq_left']
  array_get_dec
  by_cases h : dp s v = dp s m + dp m v
  · rw [if_pos (by omega)]
    simp only [h, decide_true, if_true, true_and]
    exact Fr.refl _ _
  · rw [if_neg (by omega)]
    simp only [h, decide_false, Bool.false_eq_true, if_false, true_and]
    exact Fr.refl _ _
theorem t_dpth (n0 : Nat) (S : Store) (T : IsTree (qs.length + 1) (adjOf qs) nx dp) (hl : qs.length ≤ 200) {m s : Nat} (hm : m < qs.length + 1) (hs : s < qs.length + 1) :
    Ok (callM Tt.T.prog (run Tt.T.prog (n0 + 3)) i_depth_of [railD qs nx dp, .int m, .int s] [] [] S) (fun r S' => r = .int (dpth (qs.length + 1) dp m s) ∧ Fr [] S S') Mi.nx := by
  generalize hd : railD qs nx dp = dd
  refine ok_fn (fn := f_depth_of) (ds := [dd, .int m, .int s]) rfl rfl ?_
  unfold f_depth_of
  subst hd
  array_get_dec
  rw [ok_getO (k := 1) rfl rfl]
  simp only [gaps_row hm, Option.some.injEq, exists_eq_left']
  refine ok_fr (t_behL n0 S hl hm hs) fun S1 f1 => ?_
  refine ⟨_, rfl, ?_⟩
  refine lc_mapF natD (fun v => natD (dp m v)) (Nat.le_trans (behL_len _ _ _ _) (Nat.le_trans (show _ ≤ 300 by omega) (by decide))) (fun v hv S5 f5 _ => ?_) fun S5 f5 => ?_
  · have hv : v < qs.length + 1 := List.mem_range.mp (List.mem_filter.mp hv).1
    rw [ok_lcT]
    refine ⟨_, rfl, ?_⟩
    array_get_dec
    simp only [tab_at hv, Option.some.injEq, exists_eq_left']
    exact ⟨trivial, Fr.refl _ _⟩
  · have hne : (behL (qs.length + 1) dp m s).map (dp m) ≠ [] := fun z => by
      have := behL_self T (s := s) hm
      rw [List.map_eq_nil_iff.mp z] at this
      simp at this
    have e := max1_nat (S := S5) hne
    rw [List.map_map] at e
    exact ⟨_, e, rfl, f1.trans f5⟩
/-- the pairs of a neighbour and its branch's depth -/
def brs (qs : List (Nat × Nat)) (dp : Nat → Nat → Nat) (m : Nat) : List (Nat × Nat) := (srt (rowOf qs m)).map fun v => (v, 1 + dpth (qs.length + 1) dp v m)
theorem t_around2 (n0 : Nat) (S : Store) (T : IsTree (qs.length + 1) (adjOf qs) nx dp) (hl : qs.length ≤ 200) {m : Nat} (hm : m < qs.length + 1) :
    Ok (callM Tt.T.prog (run Tt.T.prog (n0 + 4)) i_depths_around [railD qs nx dp, .int m] [] [] S) (fun r S' => r = .list ((brs qs dp m).map pairD) ∧ Fr [] S S') Mi.nx := by
  generalize hd : railD qs nx dp = dd
  refine ok_fn (fn := f_depths_around) (ds := [dd, .int m]) rfl rfl ?_
  unfold f_depths_around
  subst hd
  array_get_dec
  rw [ok_getO (k := 0) rfl rfl]
  simp only [ix_list, tabs_at hm, Option.some.injEq, exists_eq_left']
  refine ⟨_, rfl, ?_⟩
  have hp := srt_perm (rowOf qs m)
  refine lc_mapF natD (fun v => pairD (v, 1 + dpth (qs.length + 1) dp v m)) (by rw [hp.length_eq]; exact row_line (by omega) m) (fun v hv S5 f5 _ => ?_) fun S5 f5 => ⟨by unfold brs; rw [List.map_map]; rfl, f5⟩
  have hv := (T.lt _ _ (rowOf_mem.mp (hp.mem_iff.mp hv))).2
  rw [ok_lcT]
  refine ⟨_, rfl, ?_⟩
  array_get_dec
  refine ok_fr (t_dpth n0 S5 T hl hv hm) fun S6 f6 => ⟨_, rfl, by decide, ?_, f6⟩
  unfold pairD
  simp
end
end Mi
set_option Elab.async false
set_option linter.all false
set_option maxRecDepth 100000
namespace Mi
open PySem L2 Tt IsTree
section
variable {n : Nat} {adj : Nat → Nat → Prop} {nx dp : Nat → Nat → Nat} {m s o v : Nat}
/-- what stands behind a neighbour -/
theorem beh_nb (T : IsTree n adj nx dp) (ha : adj m o) (hv : v ∈ behL n dp o m) : dp m v = 1 + dp o v ∧ v ≠ m ∧ nx v m = o := by
  obtain ⟨hm, ho⟩ := T.lt _ _ ha
  unfold behL at hv
  rw [List.mem_filter, decide_eq_true_eq, List.mem_range] at hv
  have h1 := T.dp_adj ha
  have h2 : dp m v = 1 + dp o v := by omega
  have hvm : v ≠ m := fun e => by
    subst e
    rw [T.dps v hm] at h2
    omega
  refine ⟨h2, hvm, ?_⟩
  rcases T.edge hv.1 ha with h | h
  · exact h.1
  · have e1 := T.dp_sym hv.1 hm
    have e2 := T.dp_sym hv.1 ho
    omega
theorem nb_beh (T : IsTree n adj nx dp) (hm : m < n) (hv : v < n) (h : v ≠ m) : adj m (nx v m) ∧ v ∈ behL n dp (nx v m) m ∧ dp m v = 1 + dp (nx v m) v := by
  have ha := T.nxadj v m hv hm (fun e => h e.symm)
  have hd := T.dpnx v m hv hm (fun e => h e.symm)
  have hx := T.nxlt v m hv hm
  have e1 := T.dp_sym hv hm
  have e2 := T.dp_sym hv hx
  have h1 := T.dp_adj ha
  refine ⟨ha, ?_, by omega⟩
  unfold behL
  rw [List.mem_filter, decide_eq_true_eq, List.mem_range]
  exact ⟨hv, by omega⟩
/-- the greatest of the branches -/
theorem dpth_rec (T : IsTree n adj nx dp) (hm : m < n) (hs : s < n) (h : s ≠ m) {l : List Nat} (hl : ∀ o, o ∈ l ↔ adj m o ∧ o ≠ nx s m) : dpth n dp m s = mxs (l.map fun o => 1 + dpth n dp o m) := by
  refine Nat.le_antisymm ?_ ?_
  · obtain ⟨v, hv, e⟩ := dpth_at T hm hs
    rw [← e]
    have hv2 := (behL_mem T hm hs h).mp hv
    rcases Nat.decEq v m with q | q
    · obtain ⟨h1, h2, h3⟩ := nb_beh T hm hv2.1 q
      have hne : nx v m ≠ nx s m := by
        rcases hv2.2 with e | e
        · exact absurd e q
        · exact fun z => e z.symm
      have hb := dpth_ge (dp := dp) h2
      refine Nat.le_trans (show dp m v ≤ 1 + dpth n dp (nx v m) m by omega) ?_
      exact mxs_ge _ 0 _ (.inl (List.mem_map.mpr ⟨_, (hl _).mpr ⟨h1, hne⟩, rfl⟩))
    · subst q
      rw [T.dps v hm]
      exact Nat.zero_le _
  · refine mxs_le _ 0 _ (Nat.zero_le _) fun x hx => ?_
    obtain ⟨o, ho, rfl⟩ := List.mem_map.mp hx
    obtain ⟨ha, hne⟩ := (hl o).mp ho
    obtain ⟨_, hol⟩ := T.lt _ _ ha
    obtain ⟨v, hv, e⟩ := dpth_at T hol hm
    obtain ⟨h1, h2, h3⟩ := beh_nb T ha hv
    rw [← e]
    have hvn : v < n := by
      unfold behL at hv
      rw [List.mem_filter, List.mem_range] at hv
      exact hv.1
    have : v ∈ behL n dp m s := (behL_mem T hm hs h).mpr ⟨hvn, .inr (by rw [h3]; exact fun z => hne z.symm)⟩
    have := dpth_ge (dp := dp) this
    omega
/-- only the neighbour towards it counts -/
theorem dpth_nx (T : IsTree n adj nx dp) (hm : m < n) (hs : s < n) (h : s ≠ m) : dpth n dp m s = dpth n dp m (nx s m) := by
  have ha := T.nxadj s m hs hm (fun e => h e.symm)
  have hx := T.nxlt s m hs hm
  have hne : nx s m ≠ m := fun e => T.irr _ _ ha e.symm
  have e1 : nx (nx s m) m = nx s m := T.nx_adj (T.sym _ _ ha)
  unfold dpth
  congr 2
  unfold behL
  refine List.filter_congr fun v hv => ?_
  have hv := List.mem_range.mp hv
  have a1 := behL_mem (v := v) T hm hs h
  have a2 := behL_mem (v := v) T hm hx hne
  rw [e1] at a2
  unfold behL at a1 a2
  rw [List.mem_filter, decide_eq_true_eq, List.mem_range] at a1 a2
  have : (dp s v = dp s m + dp m v) ↔ (dp (nx s m) v = dp (nx s m) m + dp m v) := by
    constructor
    · intro z
      exact (a2.mpr (a1.mp ⟨hv, z⟩)).2
    · intro z
      exact (a1.mpr (a2.mp ⟨hv, z⟩)).2
  exact decide_eq_decide.mpr this
theorem dpth_pos (T : IsTree n adj nx dp) (hm : m < n) (hs : s < n) (h : s ≠ m) (ha : adj m o) (hne : o ≠ nx s m) : 1 + dpth n dp o m ≤ dpth n dp m s := by
  obtain ⟨_, hol⟩ := T.lt _ _ ha
  obtain ⟨v, hv, e⟩ := dpth_at T hol hm
  obtain ⟨h1, h2, h3⟩ := beh_nb T ha hv
  have hvn : v < n := by
    unfold behL at hv
    rw [List.mem_filter, List.mem_range] at hv
    exact hv.1
  have : v ∈ behL n dp m s := (behL_mem T hm hs h).mpr ⟨hvn, .inr (by rw [h3]; exact fun z => hne z.symm)⟩
  have := dpth_ge (dp := dp) this
  omega
end
end Mi
set_option Elab.async false
set_option linter.all false
set_option maxRecDepth 100000
namespace Mi
open PySem L2 Tt IsTree
/-- i steps from v towards s -/
def stp (nx : Nat → Nat → Nat) (s v : Nat) : Nat → Nat
  | 0 => v
  | i + 1 => nx s (stp nx s v i)
theorem stp_nx (nx : Nat → Nat → Nat) (s v : Nat) : ∀ i, stp nx s (nx s v) i = stp nx s v (i + 1)
  | 0 => rfl
  | i + 1 => by
    show nx s (stp nx s (nx s v) i) = nx s (stp nx s v (i + 1))
    rw [stp_nx nx s v i]
theorem way_stp (nx : Nat → Nat → Nat) (s : Nat) : ∀ k v, wayF nx s k v = (List.range (k + 1)).map (stp nx s v)
  | 0, v => rfl
  | k + 1, v => by
    unfold wayF
    rw [way_stp nx s k, List.range_succ_eq_map (n := k + 1), List.map_cons, List.map_map]
    congr 1
    exact List.map_congr_left fun i _ => stp_nx nx s v i
section
variable {n : Nat} {adj : Nat → Nat → Prop} {nx dp : Nat → Nat → Nat} {s v i j : Nat}
theorem stp_lt (T : IsTree n adj nx dp) (hs : s < n) (hv : v < n) : ∀ i, stp nx s v i < n
  | 0 => hv
  | i + 1 => T.nxlt s _ hs (stp_lt T hs hv i)
theorem stp_dp (T : IsTree n adj nx dp) (hs : s < n) (hv : v < n) : ∀ i, i ≤ dp s v → dp s (stp nx s v i) = dp s v - i
  | 0, _ => rfl
  | i + 1, h => by
    have ih := stp_dp T hs hv i (by omega)
    have hl := stp_lt T hs hv i
    have hne : stp nx s v i ≠ s := fun e => by
      rw [e, T.dps s hs] at ih
      omega
    have := T.dpnx s _ hs hl hne
    show dp s (nx s (stp nx s v i)) = _
    omega
theorem stp_adj (T : IsTree n adj nx dp) (hs : s < n) (hv : v < n) (h : i < dp s v) : adj (stp nx s v i) (stp nx s v (i + 1)) := by
  have e := stp_dp T hs hv i (by omega)
  exact T.nxadj s _ hs (stp_lt T hs hv i) fun z => by
    rw [z, T.dps s hs] at e
    omega
theorem stp_last (T : IsTree n adj nx dp) (hs : s < n) (hv : v < n) : stp nx s v (dp s v) = s := by
  have := stp_dp T hs hv (dp s v) (Nat.le_refl _)
  exact (T.dp0 hs (stp_lt T hs hv _)).mp (by omega)
theorem stp_near (T : IsTree n adj nx dp) (hs : s < n) (hv : v < n) : ∀ d i, i + d ≤ dp s v → dp (stp nx s v i) (stp nx s v (i + d)) ≤ d
  | 0, i, _ => by
    rw [Nat.add_zero, T.dps _ (stp_lt T hs hv i)]
    exact Nat.le_refl _
  | d + 1, i, h => by
    have ih := stp_near T hs hv d i (by omega)
    have h1 := T.dp_adj (stp_adj T hs hv (i := i + d) (by omega))
    have := T.triangle (stp_lt T hs hv i) (stp_lt T hs hv (i + d)) (stp_lt T hs hv (i + d + 1))
    show dp _ (stp nx s v (i + d + 1)) ≤ _
    omega
theorem stp_dist (T : IsTree n adj nx dp) (hs : s < n) (hv : v < n) (hij : i ≤ j) (hj : j ≤ dp s v) : dp (stp nx s v i) (stp nx s v j) = j - i := by
  have h1 := stp_near T hs hv (j - i) i (by omega)
  rw [show i + (j - i) = j by omega] at h1
  have h0 := stp_near T hs hv i 0 (by omega)
  rw [Nat.zero_add] at h0
  have h2 := stp_dp T hs hv j hj
  have e1 := T.dp_sym hs (stp_lt T hs hv j)
  have e2 := T.dp_sym hs hv
  have t1 := T.triangle (m := stp nx s v i) hv (stp_lt T hs hv i) (stp_lt T hs hv j)
  have t2 := T.triangle (m := stp nx s v j) hv (stp_lt T hs hv j) hs
  have e0 : stp nx s v 0 = v := rfl
  rw [e0] at h0
  omega
theorem stp_fore (T : IsTree n adj nx dp) (hs : s < n) (hv : v < n) (hij : i < j) (hj : j ≤ dp s v) : nx (stp nx s v j) (stp nx s v i) = stp nx s v (i + 1) := by
  have ha := stp_adj T hs hv (i := i) (by omega)
  have d1 := stp_dist T hs hv (i := i) (j := j) (by omega) hj
  have d2 := stp_dist T hs hv (i := i + 1) (j := j) (by omega) hj
  have e1 := T.dp_sym (stp_lt T hs hv i) (stp_lt T hs hv j)
  have e2 := T.dp_sym (stp_lt T hs hv (i + 1)) (stp_lt T hs hv j)
  rcases T.edge (stp_lt T hs hv j) ha with h | h
  · exact h.1
  · omega
theorem stp_rear (T : IsTree n adj nx dp) (hs : s < n) (hv : v < n) (hij : i ≤ j) (hj : j < dp s v) : nx (stp nx s v i) (stp nx s v (j + 1)) = stp nx s v j := by
  have ha := stp_adj T hs hv (i := j) (by omega)
  have d1 := stp_dist T hs hv (i := i) (j := j) hij (by omega)
  have d2 := stp_dist T hs hv (i := i) (j := j + 1) (by omega) (by omega)
  rcases T.edge (stp_lt T hs hv i) (T.sym _ _ ha) with h | h
  · exact h.1
  · omega
theorem stp_inj (T : IsTree n adj nx dp) (hs : s < n) (hv : v < n) (hi : i ≤ dp s v) (hj : j ≤ dp s v) (h : stp nx s v i = stp nx s v j) : i = j := by
  have h1 := stp_dp T hs hv i hi
  have h2 := stp_dp T hs hv j hj
  rw [h] at h1
  omega
/-- the depth past the i-th station, seen from the rear; and from the head -/
def fA (n : Nat) (nx dp : Nat → Nat → Nat) (s v i : Nat) : Nat := dpth n dp (stp nx s v i) (stp nx s v (i + 1))
def fB (n : Nat) (nx dp : Nat → Nat → Nat) (s v j : Nat) : Nat := dpth n dp (stp nx s v j) (stp nx s v (j - 1))
theorem fA_eq (T : IsTree n adj nx dp) (hs : s < n) (hv : v < n) (hij : i < j) (hj : j ≤ dp s v) : dpth n dp (stp nx s v i) (stp nx s v j) = fA n nx dp s v i := by
  have := dpth_nx T (stp_lt T hs hv i) (stp_lt T hs hv j) fun e => by have := stp_inj T hs hv hj (by omega) e; omega
  rw [this, stp_fore T hs hv hij hj]
  rfl
theorem fB_eq (T : IsTree n adj nx dp) (hs : s < n) (hv : v < n) (hij : i < j) (hj : j ≤ dp s v) : dpth n dp (stp nx s v j) (stp nx s v i) = fB n nx dp s v j := by
  have := dpth_nx T (stp_lt T hs hv j) (stp_lt T hs hv i) fun e => by have := stp_inj T hs hv (by omega) hj e; omega
  obtain ⟨k, rfl⟩ : ∃ k, j = k + 1 := ⟨j - 1, by omega⟩
  rw [this, stp_rear T hs hv (by omega) (by omega)]
  rfl
theorem fA_grow (T : IsTree n adj nx dp) (hs : s < n) (hv : v < n) (h : i + 1 < dp s v) : fA n nx dp s v i + 1 ≤ fA n nx dp s v (i + 1) := by
  rw [← fA_eq T hs hv (j := dp s v) (by omega) (Nat.le_refl _), ← fA_eq T hs hv (i := i + 1) (j := dp s v) (by omega) (Nat.le_refl _)]
  have := dpth_grow T (stp_lt T hs hv i) (stp_lt T hs hv (dp s v)) fun e => by have := stp_inj T hs hv (by omega) (Nat.le_refl _) e; omega
  rw [stp_fore T hs hv (by omega) (Nat.le_refl _)] at this
  exact this
theorem fB_grow (T : IsTree n adj nx dp) (hs : s < n) (hv : v < n) (h0 : 0 < j) (h : j < dp s v) : fB n nx dp s v (j + 1) + 1 ≤ fB n nx dp s v j := by
  rw [← fB_eq T hs hv (i := 0) (by omega) (by omega), ← fB_eq T hs hv (i := 0) (j := j) (by omega) (by omega)]
  have := dpth_grow T (stp_lt T hs hv (j + 1)) (stp_lt T hs hv 0) fun e => by have := stp_inj T hs hv (by omega) (Nat.zero_le _) e; omega
  rw [stp_rear T hs hv (by omega) (by omega)] at this
  exact this
end
end Mi
set_option Elab.async false
set_option linter.all false
set_option maxRecDepth 100000
namespace Mi
open PySem L2 Tt IsTree
theorem sub_len {α : Type} [DecidableEq α] : ∀ {l m : List α}, l.Nodup → (∀ x ∈ l, x ∈ m) → l.length ≤ m.length
  | [], m, _, _ => Nat.zero_le _
  | x :: l, m, h, hs => by
    obtain ⟨h1, h2⟩ := List.nodup_cons.mp h
    have hx := hs x (by simp)
    have ih := sub_len (m := m.erase x) h2 fun y hy => (List.mem_erase_of_ne (fun e => h1 (by rw [← e]; exact hy))).mpr (hs y (by simp [hy]))
    have := List.length_erase_of_mem hx
    have : 0 < m.length := List.length_pos_of_mem hx
    rw [List.length_cons]
    omega
theorem two_of {l : List Nat} (h : 2 ≤ l.length) (hn : l.Nodup) : ∃ a b, a ∈ l ∧ b ∈ l ∧ a ≠ b := by
  match l, h, hn with
  | a :: b :: l, _, hn =>
    exact ⟨a, b, by simp, by simp, fun e => (List.nodup_cons.mp hn).1 (by simp [e])⟩
theorem of_two {l : List Nat} {a b : Nat} (ha : a ∈ l) (hb : b ∈ l) (h : a ≠ b) : 2 ≤ l.length :=
  sub_len (l := [a, b]) (by simp [h]) fun x hx => by
    simp only [List.mem_cons, List.not_mem_nil, or_false] at hx
    rcases hx with rfl | rfl
    · exact ha
    · exact hb
section
variable {n : Nat} {adj : Nat → Nat → Prop} {nx dp : Nat → Nat → Nat} {L m o a b : Nat}
/-- the branch of m at o is deep -/
def Dp (n : Nat) (nx dp : Nat → Nat → Nat) (L m o : Nat) : Prop := ∃ v, v < n ∧ v ≠ m ∧ nx v m = o ∧ L ≤ dp m v
theorem deep_iff (T : IsTree n adj nx dp) (ha : adj m o) : L ≤ 1 + dpth n dp o m ↔ Dp n nx dp L m o := by
  obtain ⟨hm, ho⟩ := T.lt _ _ ha
  constructor
  · intro h
    obtain ⟨v, hv, e⟩ := dpth_at T (m := o) (s := m) ho hm
    obtain ⟨e1, e2, e3⟩ := beh_nb T ha hv
    unfold behL at hv
    exact ⟨v, List.mem_range.mp (List.mem_filter.mp hv).1, e2, e3, by omega⟩
  · rintro ⟨v, hv, hne, rfl, h⟩
    obtain ⟨_, e2, e3⟩ := nb_beh T hm hv hne
    have := dpth_ge (dp := dp) e2
    omega
/-- two deep branches -/
def Db (n : Nat) (nx dp : Nat → Nat → Nat) (L m : Nat) : Prop := ∃ v w, v < n ∧ w < n ∧ v ≠ m ∧ w ≠ m ∧ nx v m ≠ nx w m ∧ L ≤ dp m v ∧ L ≤ dp m w
theorem Db.but (h : Db n nx dp L m) (o : Nat) : ∃ v, v < n ∧ v ≠ m ∧ nx v m ≠ o ∧ L ≤ dp m v := by
  obtain ⟨v, w, h1, h2, h3, h4, h5, h6, h7⟩ := h
  by_cases e : nx v m = o
  · exact ⟨w, h2, h4, fun z => h5 (e.trans z.symm), h7⟩
  · exact ⟨v, h1, h3, e, h6⟩
/-- what stands beyond an edge -/
theorem beyond (T : IsTree n adj nx dp) (ha : adj a b) {v : Nat} (hv : v < n) (h : nx v b ≠ a) : nx v a = b ∧ v ≠ a ∧ dp a v = dp b v + 1 := by
  obtain ⟨h1, h2⟩ := T.lt _ _ ha
  rcases T.edge hv ha with ⟨e1, e2, e3⟩ | ⟨e1, _, _⟩
  · rw [T.dp_sym hv h1, T.dp_sym hv h2] at e3
    exact ⟨e1, fun z => e2 z.symm, e3⟩
  · exact absurd e1 h
theorem Db.near (T : IsTree n adj nx dp) (ha : adj a b) (h : Db n nx dp L b) : Dp n nx dp L a b := by
  obtain ⟨v, h1, h2, h3, h4⟩ := h.but a
  obtain ⟨e1, e2, e3⟩ := beyond T ha h1 h3
  exact ⟨v, h1, e2, e1, by omega⟩
theorem Db.conv (T : IsTree n adj nx dp) {s x : Nat} (hs : s < n) (hx : x < n) (h0 : Db n nx dp L s) (h : Db n nx dp L x) (hne : x ≠ s) : Db n nx dp L (nx s x) := by
  have hw := T.nxlt s x hs hx
  by_cases hws : nx s x = s
  · rw [hws]; exact h0
  have hadj := T.nxadj s x hs hx hne
  have hdx := T.dpnx s x hs hx hne
  generalize hwe : nx s x = w at *
  obtain ⟨v, v1, v2, v3, v4⟩ := h.but w
  obtain ⟨u, u1, u2, u3, u4⟩ := h0.but (nx x s)
  obtain ⟨e1, e2, e3⟩ := beyond T (T.sym _ _ hadj) v1 v3
  -- u, seen from x, lies beyond s
  have b1 : dp x u = dp x s + dp s u := (T.between hx hs u1 hne u2).mpr (fun z => u3 z.symm)
  have t1 := T.triangle (m := s) hw hs u1
  have t2 := T.triangle (m := w) hx hw u1
  have d1 := T.dp_adj hadj
  have s1 := T.dp_sym hs hx
  have s2 := T.dp_sym hs hw
  have p1 : 0 < dp s u := by
    rcases Nat.eq_zero_or_pos (dp s u) with z | z
    · exact absurd ((T.dp0 hs u1).mp z) u2
    · exact z
  have q1 := T.dp_sym u1 hx
  have q2 := T.dp_sym u1 hw
  have hwu : w ≠ u := fun z => by
    rw [← z] at b1 p1
    omega
  refine ⟨v, u, v1, u1, e2, fun z => hwu z.symm, ?_, by omega, by omega⟩
  rw [e1]
  intro z
  have := T.dpnx u w u1 hw hwu
  rw [← z] at this
  omega
/-- a station with two deep branches there is, exactly if the railway is wide -/
theorem Db.wide (T : IsTree n adj nx dp) (h : Db n nx dp L m) (hm : m < n) : ∃ u v, u < n ∧ v < n ∧ 2 * L ≤ dp u v := by
  obtain ⟨v, w, h1, h2, h3, h4, h5, h6, h7⟩ := h
  have b : dp v w = dp v m + dp m w := (T.between h1 hm h2 h3 h4).mpr h5
  have := T.dp_sym h1 hm
  exact ⟨v, w, h1, h2, by omega⟩
theorem Db.of_wide (T : IsTree n adj nx dp) {u v : Nat} (hu : u < n) (hv : v < n) (h1 : 1 ≤ L) (h : 2 * L ≤ dp u v) : ∃ m, m < n ∧ Db n nx dp L m := by
  have s1 := T.dp_sym hu hv
  have hm := stp_lt T hv hu L
  have e1 := stp_dist T hv hu (i := 0) (j := L) (Nat.zero_le _) (by omega)
  have e1 : dp u (stp nx v u L) = L - 0 := e1
  have e2 := stp_dist T hv hu (i := L) (j := dp v u) (by omega) (Nat.le_refl _)
  rw [stp_last T hv hu] at e2
  have s2 := T.dp_sym hu hm
  generalize stp nx v u L = m at *
  have n1 : u ≠ m := fun z => by
    have : dp u m = 0 := by rw [z]; exact T.dps m hm
    omega
  have n2 : v ≠ m := fun z => by
    have : dp m v = 0 := by rw [z]; exact T.dps m hm
    omega
  exact ⟨m, hm, u, v, hu, hv, n1, n2, (T.between hu hm hv n1 n2).mp (by show dp u v = dp u m + dp m v; omega), by omega, by omega⟩
end
end Mi
set_option Elab.async false
set_option linter.all false
set_option maxRecDepth 100000
namespace Mi
open PySem L2 Tt
local macro_rules | `(tactic| array_get_dec) => `(tactic| simp only [wipeD, ok_exs, ok_exs0, go_next, go_ret, go_brk, go_cont, ok_sex, ok_ret, ok_set, ok_par, ok_seti, ok_seta, ok_site, ok_for, ok_pass, ok_brk, ok_cont, ok_v, ok_c, ok_g, ok_tup, ok_list, ok_mlist, ok_mdict, ok_mdictT, ok_edict, ok_bin, ok_mulm, ok_addm, ok_rngm, ok_neg, ok_cmp, ok_eqE, ok_cmp2, ok_isN, ok_isB, ok_not, ok_eite, ok_ix, ok_sl, ok_slm, ok_vals, ok_rev, ok_attr, ok_cattr, ok_call, ok_bc, ok_isi, ok_meth, ok_bm, ok_cm, ok_mk, ok_mkv, ok_mkx, ok_cs, ok_cmv, ok_lc2, ok_raise, ok_try, ok_fz, ok_lc, ok_evs0, ok_evs1, ok_evsS, ok_and, ok_or, ok_and1, ok_and2, ok_or1, ok_or2, ok_t0, ok_t1, ok_bind, ok_truth, b_add, b_sub, b_mul, b_fdiv, b_mod, b_pow, b_tup, b_list, ite_some, c_lt, c_le, c_gt, c_ge, c_eq, c_ne, eq_int, eq_str, Option.map_some, ix_list, ix_tup, len_list, len_tup, asg_n, asg_t, asgs_0, asgs_1, List.map_cons, List.map_nil, List.length_cons, List.length_nil, List.replicate_succ, List.replicate_zero, List.cons_append, List.nil_append, List.append_nil, Nat.reduceAdd, Nat.reduceSub, Nat.reduceLT, Nat.zero_add, Nat.lt_add_one, Nat.zero_lt_succ, Nat.succ_pos, List.set_cons_zero, List.set_cons_succ, List.getElem?_cons_zero, List.getElem?_cons_succ, Option.bind_some, Option.some.injEq, D.bool.injEq, D.int.injEq, exists_eq_left', exists_eq_left, exists_eq_right, exists_eq_right', exists_and_left, and_true, true_and, if_true, ne_eq, reduceCtorEq, not_false_eq_true, implies_true, if_pos, partE, exists_const, and_assoc, Prod.mk.injEq, if_false, Int.reduceToNat, Int.reducePow, Nat.reducePow, Int.reduceLT, Int.reduceLE, Int.reduceNeg, Int.reduceAdd, Int.reduceSub, Int.reduceMul, decide_eq_true_eq])
section
variable {qs : List (Nat × Nat)} {nx dp : Nat → Nat → Nat}
theorem t_has {n0 : Nat} {S : Store} {v : D} {k : String} (h : kindOf S v = some k) : callM Tt.T.prog (run Tt.T.prog (n0 + 2)) i_Railway_has_station [railD qs nx dp, v] [] [] S = .ok (.bool (stB (qs.length + 1) v)) S := by
  generalize hd : railD qs nx dp = dd
  refine ok_same (ok_fn (fn := f_Railway_has_station) (ds := [dd, v]) rfl rfl ?_)
  unfold f_Railway_has_station
  subst hd
  array_get_dec
  simp only [t_isint h, ok_ok]
  try array_get_dec
  cases hv : isI v with
  | false => simp [stB_isI hv]
  | true =>
    cases v with
    | int i =>
      try array_get_dec
      rw [ok_getO (k := 0) rfl rfl]
      simp only [len_links]
      array_get_dec
      by_cases h0 : 0 ≤ i <;> simp [stB_int, h0]
    | _ => cases hv
end
end Mi
set_option Elab.async false
set_option linter.all false
set_option maxRecDepth 100000
namespace Mi
open PySem L2 Tt
local macro_rules | `(tactic| array_get_dec) => `(tactic| simp only [wipeD, ok_exs, ok_exs0, go_next, go_ret, go_brk, go_cont, ok_sex, ok_ret, ok_set, ok_par, ok_seti, ok_seta, ok_site, ok_for, ok_pass, ok_brk, ok_cont, ok_v, ok_c, ok_g, ok_tup, ok_list, ok_mlist, ok_mdict, ok_mdictT, ok_edict, ok_bin, ok_mulm, ok_addm, ok_rngm, ok_neg, ok_cmp, ok_eqE, ok_cmp2, ok_isN, ok_isB, ok_not, ok_eite, ok_ix, ok_sl, ok_slm, ok_vals, ok_rev, ok_attr, ok_cattr, ok_call, ok_bc, ok_isi, ok_meth, ok_bm, ok_cm, ok_mk, ok_mkv, ok_mkx, ok_cs, ok_cmv, ok_lc2, ok_raise, ok_try, ok_fz, ok_lc, ok_evs0, ok_evs1, ok_evsS, ok_and, ok_or, ok_and1, ok_and2, ok_or1, ok_or2, ok_t0, ok_t1, ok_bind, ok_truth, b_add, b_sub, b_mul, b_fdiv, b_mod, b_pow, b_tup, b_list, ite_some, c_lt, c_le, c_gt, c_ge, c_eq, c_ne, eq_int, eq_str, Option.map_some, ix_list, ix_tup, len_list, len_tup, asg_n, asg_t, asgs_0, asgs_1, List.map_cons, List.map_nil, List.length_cons, List.length_nil, List.replicate_succ, List.replicate_zero, List.cons_append, List.nil_append, List.append_nil, Nat.reduceAdd, Nat.reduceSub, Nat.reduceLT, Nat.zero_add, Nat.lt_add_one, Nat.zero_lt_succ, Nat.succ_pos, List.set_cons_zero, List.set_cons_succ, List.getElem?_cons_zero, List.getElem?_cons_succ, Option.bind_some, Option.some.injEq, D.bool.injEq, D.int.injEq, exists_eq_left', exists_eq_left, exists_eq_right, exists_eq_right', exists_and_left, and_true, true_and, if_true, ne_eq, reduceCtorEq, not_false_eq_true, implies_true, if_pos, partE, exists_const, and_assoc, Prod.mk.injEq, if_false, Int.reduceToNat, Int.reducePow, Nat.reducePow, Int.reduceLT, Int.reduceLE, Int.reduceNeg, Int.reduceAdd, Int.reduceSub, Int.reduceMul, decide_eq_true_eq])
section
variable {qs : List (Nat × Nat)} {nx dp : Nat → Nat → Nat}
theorem t_checkst {n0 : Nat} {S : Store} {i : Nat} (h : i < qs.length + 1) : callM Tt.T.prog (run Tt.T.prog (n0 + 3)) i_Railway_check_station [railD qs nx dp, .int i] [] [] S = .ok .none S := by
  generalize hd : railD qs nx dp = dd
  refine ok_same (ok_fn (fn := f_Railway_check_station) (ds := [dd, .int i]) rfl rfl ?_)
  unfold f_Railway_check_station
  subst hd
  array_get_dec
  refine ⟨0, rfl, i_Railway_has_station, rfl, ?_⟩
  rw [t_has (k := "int") rfl, ok_ok, stB_nat h]
  simp
end
end Mi
set_option Elab.async false
set_option linter.all false
namespace Mi
open PySem L2
mutual
def nb : PyData → Bool
  | .none | .int _ | .str _ => true
  | .bool _ | .dict _ => false
  | .list xs | .tuple xs => nbs xs
def nbs : List PyData → Bool
  | [] => true
  | x :: xs => nb x && nbs xs
end
mutual
theorem eqv_nb : ∀ p q : PyData, nb p = true → nb q = true → (PyData.eqv p q = true ↔ p = q)
  | .bool _, _, h, _ => by simp [nb] at h
  | .dict _, _, h, _ => by simp [nb] at h
  | _, .bool _, _, h => by simp [nb] at h
  | _, .dict _, _, h => by simp [nb] at h
  | .list xs, .list ys, h, g => by
    rw [PyData.eqv, eqvs_nb xs ys (by simpa only [nb] using h) (by simpa only [nb] using g)]
    simp
  | .tuple xs, .tuple ys, h, g => by
    rw [PyData.eqv, eqvs_nb xs ys (by simpa only [nb] using h) (by simpa only [nb] using g)]
    simp
  | .none, .none, _, _ => by simp [PyData.eqv]
  | .none, .int _, _, _ => by simp [PyData.eqv]
  | .none, .str _, _, _ => by simp [PyData.eqv]
  | .none, .list _, _, _ => by simp [PyData.eqv]
  | .none, .tuple _, _, _ => by simp [PyData.eqv]
  | .int _, .none, _, _ => by simp [PyData.eqv]
  | .int _, .int _, _, _ => by simp [PyData.eqv]
  | .int _, .str _, _, _ => by simp [PyData.eqv]
  | .int _, .list _, _, _ => by simp [PyData.eqv]
  | .int _, .tuple _, _, _ => by simp [PyData.eqv]
  | .str _, .none, _, _ => by simp [PyData.eqv]
  | .str _, .int _, _, _ => by simp [PyData.eqv]
  | .str _, .str _, _, _ => by simp [PyData.eqv]
  | .str _, .list _, _, _ => by simp [PyData.eqv]
  | .str _, .tuple _, _, _ => by simp [PyData.eqv]
  | .list _, .none, _, _ => by simp [PyData.eqv]
  | .list _, .int _, _, _ => by simp [PyData.eqv]
  | .list _, .str _, _, _ => by simp [PyData.eqv]
  | .list _, .tuple _, _, _ => by simp [PyData.eqv]
  | .tuple _, .none, _, _ => by simp [PyData.eqv]
  | .tuple _, .int _, _, _ => by simp [PyData.eqv]
  | .tuple _, .str _, _, _ => by simp [PyData.eqv]
  | .tuple _, .list _, _, _ => by simp [PyData.eqv]
theorem eqvs_nb : ∀ xs ys : List PyData, nbs xs = true → nbs ys = true → (PyData.eqvAll xs ys = true ↔ xs = ys)
  | [], [], _, _ => by simp [PyData.eqvAll]
  | [], _ :: _, _, _ => by simp [PyData.eqvAll]
  | _ :: _, [], _, _ => by simp [PyData.eqvAll]
  | x :: xs, y :: ys, h, g => by
    simp only [nbs, Bool.and_eq_true] at h g
    rw [PyData.eqvAll, Bool.and_eq_true, eqv_nb x y h.1 g.1, eqvs_nb xs ys h.2 g.2]
    simp
end
mutual
theorem pyd_inj : ∀ (x y : D) {p : PyData}, pyd x = some p → pyd y = some p → nb p = true → x = y
  | .none, y, p, h, g, n => by
    unfold pyd at h
    cases h
    cases y with
    | none => rfl
    | tup ys =>
      unfold pyd at g
      obtain ⟨qs, g1, e⟩ := Option.map_eq_some_iff.mp g
      cases e
    | list ys =>
      unfold pyd at g
      obtain ⟨qs, g1, e⟩ := Option.map_eq_some_iff.mp g
      cases e
    | dict ks ys =>
      unfold pyd at g
      obtain ⟨qs, g1, e⟩ := Option.map_eq_some_iff.mp g
      cases e
    | _ => unfold pyd at g; cases g
  | .bool _, y, p, h, g, n => by
    unfold pyd at h
    cases h
    simp [nb] at n
  | .int i, y, p, h, g, n => by
    unfold pyd at h
    cases h
    cases y with
    | int j => unfold pyd at g; cases g; rfl
    | tup ys =>
      unfold pyd at g
      obtain ⟨qs, g1, e⟩ := Option.map_eq_some_iff.mp g
      cases e
    | list ys =>
      unfold pyd at g
      obtain ⟨qs, g1, e⟩ := Option.map_eq_some_iff.mp g
      cases e
    | dict ks ys =>
      unfold pyd at g
      obtain ⟨qs, g1, e⟩ := Option.map_eq_some_iff.mp g
      cases e
    | _ => unfold pyd at g; cases g
  | .str i, y, p, h, g, n => by
    unfold pyd at h
    cases h
    cases y with
    | str j => unfold pyd at g; cases g; rfl
    | tup ys =>
      unfold pyd at g
      obtain ⟨qs, g1, e⟩ := Option.map_eq_some_iff.mp g
      cases e
    | list ys =>
      unfold pyd at g
      obtain ⟨qs, g1, e⟩ := Option.map_eq_some_iff.mp g
      cases e
    | dict ks ys =>
      unfold pyd at g
      obtain ⟨qs, g1, e⟩ := Option.map_eq_some_iff.mp g
      cases e
    | _ => unfold pyd at g; cases g
  | .tup xs, y, p, h, g, n => by
    unfold pyd at h
    obtain ⟨ps, h1, rfl⟩ := Option.map_eq_some_iff.mp h
    cases y with
    | tup ys =>
      unfold pyd at g
      obtain ⟨qs, g1, e⟩ := Option.map_eq_some_iff.mp g
      cases e
      rw [pyds_inj xs ys h1 g1 (by simpa only [nb] using n)]
    | list ys =>
      unfold pyd at g
      obtain ⟨qs, g1, e⟩ := Option.map_eq_some_iff.mp g
      cases e
    | dict ks ys =>
      unfold pyd at g
      obtain ⟨qs, g1, e⟩ := Option.map_eq_some_iff.mp g
      cases e
    | _ => unfold pyd at g; cases g
  | .list xs, y, p, h, g, n => by
    unfold pyd at h
    obtain ⟨ps, h1, rfl⟩ := Option.map_eq_some_iff.mp h
    cases y with
    | list ys =>
      unfold pyd at g
      obtain ⟨qs, g1, e⟩ := Option.map_eq_some_iff.mp g
      cases e
      rw [pyds_inj xs ys h1 g1 (by simpa only [nb] using n)]
    | tup ys =>
      unfold pyd at g
      obtain ⟨qs, g1, e⟩ := Option.map_eq_some_iff.mp g
      cases e
    | dict ks ys =>
      unfold pyd at g
      obtain ⟨qs, g1, e⟩ := Option.map_eq_some_iff.mp g
      cases e
    | _ => unfold pyd at g; cases g
  | .dict ks xs, y, p, h, g, n => by
    unfold pyd at h
    obtain ⟨ps, h1, rfl⟩ := Option.map_eq_some_iff.mp h
    simp [nb] at n
  | .obj _ _, y, p, h, g, n => by unfold pyd at h; cases h
  | .exc _ _, y, p, h, g, n => by unfold pyd at h; cases h
  | .cls _, y, p, h, g, n => by unfold pyd at h; cases h
  | .ref _, y, p, h, g, n => by unfold pyd at h; cases h
theorem pyds_inj : ∀ (xs ys : List D) {ps : List PyData}, pyds xs = some ps → pyds ys = some ps → nbs ps = true → xs = ys
  | [], ys, ps, h, g, n => by
    unfold pyds at h
    cases h
    cases ys with
    | nil => rfl
    | cons y ys =>
      unfold pyds at g
      split at g <;> cases g
  | x :: xs, ys, ps, h, g, n => by
    unfold pyds at h
    split at h
    · rename_i d ds e1 e2
      cases h
      cases ys with
      | nil => unfold pyds at g; cases g
      | cons y ys =>
        unfold pyds at g
        split at g
        · rename_i d' ds' e3 e4
          cases g
          simp only [nbs, Bool.and_eq_true] at n
          rw [pyd_inj x y e1 e3 n.1, pyds_inj xs ys e2 e4 n.2]
        · cases g
    · cases h
end
open Classical in
/-- two data without truth values are equal if they are the same -/
theorem eq_data {S : Store} {x y : D} {p q : PyData} (hx : pyd x = some p) (hy : pyd y = some q) (dx : deref S x = x) (dy : deref S y = y) (np : nb p = true) (nq : nb q = true) (sp : SeqAt.shaped p = true) (sq : SeqAt.shaped q = true) : eqOp S x y = some (decide (x = y)) := by
  rw [eq_of (p := p) (q := q) (by unfold pyS; rw [dx]; exact hx) (by unfold pyS; rw [dy]; exact hy) sp sq]
  congr 1
  rw [Bool.eq_iff_iff, eqv_nb p q np nq, decide_eq_true_eq]
  constructor
  · intro e
    subst e
    exact pyd_inj x y hx hy np
  · intro e
    subst e
    rw [hx] at hy
    exact Option.some.inj hy
theorem deref_data {S : Store} {x : D} {p : PyData} (h : pyd x = some p) : deref S x = x := by
  cases x with
  | ref n => unfold pyd at h; cases h
  | _ => rfl
def gn (x : D) : Prop := ∃ p, pyd x = some p ∧ plI p = true ∧ p.depth ≤ 20 ∧ nb p = true
def gns (xs : List D) : Prop := ∃ ps, pyds xs = some ps ∧ plIs ps = true ∧ PyData.depthAll ps ≤ 19 ∧ nbs ps = true
open Classical in
theorem eq_gn {S : Store} {x y : D} (hx : gn x) (hy : gn y) : eqOp S x y = some (decide (x = y)) := by
  obtain ⟨p, a1, a2, a3, a4⟩ := hx
  obtain ⟨q, b1, b2, b3, b4⟩ := hy
  have sh : ∀ p : PyData, plI p = true → p.depth ≤ 20 → SeqAt.shaped p = true := fun p h1 h2 => by
    unfold SeqAt.shaped
    rw [(pl_all p h1).1, decide_eq_true (by omega)]
    rfl
  exact eq_data a1 b1 (deref_data a1) (deref_data b1) a4 b4 (sh p a2 a3) (sh q b2 b3)
theorem gn_int {i : Int} (h : i.natAbs < 10 ^ 12) : gn (.int i) := ⟨.int i, pyd_int, by simp only [plI]; exact decide_eq_true h, Nat.zero_le _, rfl⟩
theorem gn_nat {i : Nat} (h : i < 10 ^ 12) : gn (.int i) := gn_int (by simpa using h)
theorem gn_none : gn .none := ⟨.none, by unfold pyd; rfl, rfl, Nat.zero_le _, rfl⟩
theorem gns_nil : gns [] := ⟨[], by unfold pyds; rfl, rfl, Nat.zero_le _, rfl⟩
theorem gns_nats {l : List Nat} (h : ∀ v ∈ l, v < 10 ^ 12) : gns (l.map fun i : Nat => D.int i) := by
  refine ⟨_, pyds_nat l, ?_, by rw [(lay_nat l).2]; exact Nat.zero_le _, ?_⟩
  · induction l with
    | nil => rfl
    | cons x l ih =>
      rw [List.map_cons]
      unfold plIs
      rw [ih fun v hv => h v (by simp [hv])]
      simp only [plI]
      rw [decide_eq_true (by have := h x (by simp); simpa using this)]
      rfl
  · induction l with
    | nil => rfl
    | cons x l ih =>
      rw [List.map_cons]
      unfold nbs
      rw [ih fun v hv => h v (by simp [hv])]
      rfl
theorem gn_tup {xs : List D} (h : gns xs) : gn (.tup xs) := by
  obtain ⟨ps, a1, a2, a3, a4⟩ := h
  exact ⟨.tuple ps, by unfold pyd; rw [a1]; rfl, by simpa only [plI] using a2, by simp only [PyData.depth]; omega, by simpa only [nb] using a4⟩
theorem gn_list {xs : List D} (h : gns xs) : gn (.list xs) := by
  obtain ⟨ps, a1, a2, a3, a4⟩ := h
  exact ⟨.list ps, by unfold pyd; rw [a1]; rfl, by simpa only [plI] using a2, by simp only [PyData.depth]; omega, by simpa only [nb] using a4⟩
end Mi
set_option Elab.async false
set_option linter.all false
namespace Mi
open PySem L2
theorem any_nats (w : Nat) : ∀ l : List Nat, ((l.map fun i : Nat => PyData.int i).any fun y => PyData.eqv y (.int w)) = decide (w ∈ l)
  | [] => rfl
  | x :: l => by
    rw [List.map_cons, List.any_cons, any_nats w l]
    unfold PyData.eqv
    by_cases h : w = x
    · subst h; simp
    · have e : ((x : Int) == (w : Int)) = false := by simp; omega
      rw [e]
      simp [h]
theorem in_seq {S : Store} {w : Nat} {l : List Nat} {b : D} (h : isDict S b = false) (hs : seqOf S b = some (l.map fun i : Nat => D.int i)) : inOp S (.int w) b = some (decide (w ∈ l)) := by
  unfold inOp
  rw [h]
  have e : inSeq S (.int w) b = some (decide (w ∈ l)) := by
    unfold inSeq
    rw [hs, Option.bind_some, pyds_nat, Option.bind_some]
    have e2 : pyS S (.int w) = some (.int w) := by unfold pyS deref; exact pyd_int
    rw [e2, Option.bind_some, if_pos ⟨rfl, shaped_nat l⟩, any_nats]
  cases b <;> exact e
theorem in_list {S : Store} {w : Nat} {l : List Nat} : inOp S (.int w) (.list (l.map fun i : Nat => D.int i)) = some (decide (w ∈ l)) := in_seq rfl rfl
theorem in_tup {S : Store} {w : Nat} {l : List Nat} : inOp S (.int w) (.tup (l.map fun i : Nat => D.int i)) = some (decide (w ∈ l)) := in_seq rfl rfl
theorem in_refl {S : Store} {n w : Nat} {l : List Nat} (h : S[n]? = some (.list (l.map fun i : Nat => D.int i))) : inOp S (.int w) (.ref n) = some (decide (w ∈ l)) := by
  refine in_seq ?_ ?_
  · unfold isDict
    simp only [h]
  · unfold seqOf
    rw [deref_ref h]
end Mi
set_option Elab.async false
set_option linter.all false
set_option maxRecDepth 100000
namespace Mi
open PySem L2 Tt IsTree
local macro_rules | `(tactic| array_get_dec) => `(tactic| simp only [wipeD, ok_exs, ok_exs0, go_next, go_ret, go_brk, go_cont, ok_sex, ok_ret, ok_set, ok_par, ok_seti, ok_seta, ok_site, ok_for, ok_pass, ok_brk, ok_cont, ok_v, ok_c, ok_g, ok_tup, ok_list, ok_mlist, ok_mdict, ok_mdictT, ok_edict, ok_bin, ok_mulm, ok_addm, ok_rngm, ok_neg, ok_cmp, ok_eqE, ok_cmp2, ok_isN, ok_isB, ok_not, ok_eite, ok_ix, ok_sl, ok_slm, ok_vals, ok_rev, ok_attr, ok_cattr, ok_call, ok_bc, ok_isi, ok_meth, ok_bm, ok_cm, ok_mk, ok_mkv, ok_mkx, ok_cs, ok_cmv, ok_lc2, ok_raise, ok_try, ok_fz, ok_lc, ok_evs0, ok_evs1, ok_evsS, ok_and, ok_or, ok_and1, ok_and2, ok_or1, ok_or2, ok_t0, ok_t1, ok_bind, ok_truth, b_add, b_sub, b_mul, b_fdiv, b_mod, b_pow, b_tup, b_list, ite_some, c_lt, c_le, c_gt, c_ge, c_eq, c_ne, eq_int, eq_str, Option.map_some, ix_list, ix_tup, len_list, len_tup, asg_n, asg_t, asgs_0, asgs_1, List.map_cons, List.map_nil, List.length_cons, List.length_nil, List.replicate_succ, List.replicate_zero, List.cons_append, List.nil_append, List.append_nil, Nat.reduceAdd, Nat.reduceSub, Nat.reduceLT, Nat.zero_add, Nat.lt_add_one, Nat.zero_lt_succ, Nat.succ_pos, List.set_cons_zero, List.set_cons_succ, List.getElem?_cons_zero, List.getElem?_cons_succ, Option.bind_some, Option.some.injEq, D.bool.injEq, D.int.injEq, exists_eq_left', exists_eq_left, exists_eq_right, exists_eq_right', exists_and_left, and_true, true_and, if_true, ne_eq, reduceCtorEq, not_false_eq_true, implies_true, if_pos, partE, exists_const, and_assoc, Prod.mk.injEq, if_false, Int.reduceToNat, Int.reducePow, Nat.reducePow, Int.reduceLT, Int.reduceLE, Int.reduceNeg, Int.reduceAdd, Int.reduceSub, Int.reduceMul, decide_eq_true_eq])
section
variable {qs : List (Nat × Nat)} {nx dp : Nat → Nat → Nat}
/-- the neighbours with a deep branch -/
noncomputable def deepL (qs : List (Nat × Nat)) (dp : Nat → Nat → Nat) (L m : Nat) : List Nat := (srt (rowOf qs m)).filter fun o => decide (L ≤ 1 + dpth (qs.length + 1) dp o m)
theorem row_nb (hl : qs.length ≤ 100) {m o : Nat} : o ∈ srt (rowOf qs m) ↔ adjOf qs m o := by
  obtain ⟨sp, _⟩ := srt_spec (row_line (qs := qs) (by omega) m)
  rw [sp.mem_iff, rowOf_mem]
theorem row_short (hl : qs.length ≤ 100) (m : Nat) : (srt (rowOf qs m)).length ≤ 200 := by
  obtain ⟨sp, _⟩ := srt_spec (row_line (qs := qs) (by omega) m)
  have h3 := sp.length_eq
  have h4 : (rowOf qs m).length ≤ 2 * qs.length := rowOf_len qs m
  omega
theorem row_nodup (R : Rail qs nx dp) (hl : qs.length ≤ 100) (m : Nat) : (srt (rowOf qs m)).Nodup := by
  obtain ⟨sp, _⟩ := srt_spec (row_line (qs := qs) (by omega) m)
  exact sp.nodup_iff.mpr (R.rn m)
theorem deepL_mem (T : IsTree (qs.length + 1) (adjOf qs) nx dp) (hl : qs.length ≤ 100) {L m o : Nat} : o ∈ deepL qs dp L m ↔ adjOf qs m o ∧ Dp (qs.length + 1) nx dp L m o := by
  unfold deepL
  rw [List.mem_filter, row_nb hl, decide_eq_true_eq]
  constructor
  · rintro ⟨h1, h2⟩
    exact ⟨h1, (deep_iff T h1).mp h2⟩
  · rintro ⟨h1, h2⟩
    exact ⟨h1, (deep_iff T h1).mpr h2⟩
theorem t_deep (n0 : Nat) {S : Store} (T : IsTree (qs.length + 1) (adjOf qs) nx dp) (hl : qs.length ≤ 100) {m : Nat} (L : Nat) (hm : m < qs.length + 1) :
    Ok (callM Tt.T.prog (run Tt.T.prog (n0 + 5)) i_deep_names [railD qs nx dp, .int m, .int L] [] [] S) (fun r S' => r = .list ((deepL qs dp L m).map natD) ∧ Fr [] S S') Mi.nx := by
  generalize hd : railD qs nx dp = dd
  refine ok_fn (fn := f_deep_names) (ds := [dd, .int m, .int L]) rfl rfl ?_
  unfold f_deep_names
  subst hd
  array_get_dec
  refine ok_fr (t_around2 n0 S T (by omega) hm) fun S1 f1 => ?_
  have hs := row_short (qs := qs) hl m
  refine ⟨_, rfl, ?_⟩
  refine lc_filF pairD (fun p => natD p.1) (fun p => decide (L ≤ p.2)) (by unfold brs; rw [List.length_map, show line = 16777216 from PySem.sizeLine_eq]; omega) (fun p hp S' f hlt => ?_) fun S2 f2 => ?_
  · rw [ok_lcT]
    refine ⟨_, rfl, ?_⟩
    array_get_dec
    by_cases q : L ≤ p.2
    · rw [if_pos (by omega), if_pos (by simp [q])]
      exact ⟨rfl, Fr.refl _ _⟩
    · rw [if_neg (by omega), if_neg (by simp [q])]
      exact ⟨rfl, Fr.refl _ _⟩
  · refine ⟨?_, f1.trans f2⟩
    unfold deepL brs
    rw [List.filter_map, List.map_map]
    rfl
theorem t_clenN {n0 : Nat} {S : Store} {L : Nat} (h : 1 ≤ L) : callM Tt.T.prog (run Tt.T.prog (n0 + 2)) i_check_length [.int L] [] [] S = .ok .none S := by
  refine ok_same (ok_fn (fn := f_check_length) (ds := [.int L]) rfl rfl ?_)
  unfold f_check_length
  array_get_dec
  rw [t_isint (k := "int") rfl, ok_ok]
  refine ⟨_, rfl, ?_⟩
  rw [if_neg (by simp [isI])]
  array_get_dec
  rw [if_neg (by omega)]
  try array_get_dec
  try trivial
theorem t_deepB (n0 : Nat) {S : Store} (T : IsTree (qs.length + 1) (adjOf qs) nx dp) (hl : qs.length ≤ 100) {m L : Nat} (hm : m < qs.length + 1) (h1 : 1 ≤ L) :
    Ok (callM Tt.T.prog (run Tt.T.prog (n0 + 6)) i_deep_branches [railD qs nx dp, .int m, .int L] [] [] S) (fun r S' => r = .tup ((deepL qs dp L m).map natD) ∧ Fr [] S S') Mi.nx := by
  generalize hd : railD qs nx dp = dd
  refine ok_fn (fn := f_deep_branches) (ds := [dd, .int m, .int L]) rfl rfl ?_
  unfold f_deep_branches
  subst hd
  array_get_dec
  refine ⟨0, rfl, i_Railway_check_station, rfl, ?_⟩
  rw [t_checkst (n0 := n0 + 2) hm, ok_ok]
  rw [t_clenN (n0 := n0 + 3) h1, ok_ok]
  refine ok_fr (t_deep n0 T hl L hm) fun S1 f1 => ?_
  exact ⟨_, rfl, rfl, f1⟩
theorem tuple_ref {S : Store} {n : Nat} {xs : List D} (h : S[n]? = some (.list xs)) : bfn .tuple S [.ref n] = some (.tup xs) := by
  show (seqOf S (.ref n)).map D.tup = _
  unfold seqOf
  rw [deref_ref h]
  rfl
/-- the stations with so many deep branches -/
noncomputable def jnt (qs : List (Nat × Nat)) (dp : Nat → Nat → Nat) (L k : Nat) : List Nat := (List.range (qs.length + 1)).filter fun m => decide (k ≤ (deepL qs dp L m).length)
theorem t_joints (n0 : Nat) {S : Store} (T : IsTree (qs.length + 1) (adjOf qs) nx dp) (hl : qs.length ≤ 100) {L : Nat} (k : Nat) (h1 : 1 ≤ L) :
    Ok (callM Tt.T.prog (run Tt.T.prog (n0 + 6)) i_joints [railD qs nx dp, .int L, .int k] [] [] S) (fun r S' => r = .tup ((jnt qs dp L k).map natD) ∧ Fr [] S S') Mi.nx := by
  generalize hd : railD qs nx dp = dd
  refine ok_fn (fn := f_joints) (ds := [dd, .int L, .int k]) rfl rfl ?_
  unfold f_joints
  subst hd
  array_get_dec
  rw [t_clenN (n0 := n0 + 3) h1, ok_ok]
  rw [ok_getP (g := i_Railway_size) rfl (t_size (n0 := n0 + 4))]
  refine ⟨Nat.zero_le _, _, rng1_items (by omega) (by omega), ?_⟩
  rw [range0]
  refine for_inv (fun rest η S' => ∃ (j : Nat) (o4 : Option D), j ≤ qs.length + 1 ∧ rest = (List.range' j (qs.length + 1 - j)).map (fun i : Nat => D.int i) ∧ η = [some (railD qs nx dp), some (.int L), some (.int k), some (.ref S.length), o4] ∧ S'[S.length]? = some (.list (((List.range j).filter fun m => decide (k ≤ (deepL qs dp L m).length)).map natD)) ∧ Fr [] S S')
    ⟨0, none, Nat.zero_le _, by rw [Nat.sub_zero, List.range_eq_range'], rfl, get_new, Fr.app _ _ _⟩ ?_ ?_
  · rintro x ys η S4 ⟨j, o4, hj, hr, rfl, hc, f4⟩
    have hlt : j < qs.length + 1 := by
      rcases Nat.lt_or_ge j (qs.length + 1) with q | q
      · exact q
      · rw [show qs.length + 1 - j = 0 by omega] at hr; cases hr
    rw [show qs.length + 1 - j = (qs.length + 1 - (j + 1)) + 1 by omega, List.range'_succ, List.map_cons] at hr
    obtain ⟨rfl, rfl⟩ := List.cons.inj hr
    refine ⟨_, rfl, ?_⟩
    try array_get_dec
    refine ok_fr (t_deep n0 T hl L hlt) fun S5 f5 => ?_
    have hc5 := f5.get hc (by simp)
    refine ⟨_, by rw [len_list, List.length_map], .bool (decide (k ≤ (deepL qs dp L j).length)), ?_, _, rfl, ?_⟩
    · rw [c_ge]
      congr 2
      exact decide_eq_decide.mpr (by omega)
    have hle : ((List.range j).filter fun m => decide (k ≤ (deepL qs dp L m).length)).length ≤ j := by
      have := List.length_filter_le (fun m => decide (k ≤ (deepL qs dp L m).length)) (List.range j)
      rwa [List.length_range] at this
    by_cases q : k ≤ (deepL qs dp L j).length
    · rw [if_pos (by simp [q])]
      refine ⟨bmTy_ref hc5, _, _, append_ref hc5 (by rw [List.length_map, show line = 16777216 from PySem.sizeLine_eq]; omega), j + 1, by omega, rfl, _, rfl, ?_, (f4.trans f5).setNew (Nat.le_refl _)⟩
      rw [get_set hc5, List.range_succ, List.filter_append, List.filter_cons_of_pos (by simp [q]), List.map_append]
      rfl
    · rw [if_neg (by simp only [decide_eq_true_eq]; exact q)]
      refine ⟨j + 1, by omega, rfl, _, rfl, ?_, f4.trans f5⟩
      rw [hc5, List.range_succ, List.filter_append, List.filter_cons_of_neg (by simp [q])]
      simp
  · rintro η S4 ⟨j, o4, hj, hr, rfl, hc, f4⟩
    have hjn : j = qs.length + 1 := by
      have := congrArg List.length hr
      simp at this
      omega
    subst hjn
    try array_get_dec
    exact ⟨_, tuple_ref hc, rfl, f4⟩
theorem t_trunk (n0 : Nat) {S : Store} (T : IsTree (qs.length + 1) (adjOf qs) nx dp) (hl : qs.length ≤ 100) {L : Nat} (h1 : 1 ≤ L) :
    Ok (callM Tt.T.prog (run Tt.T.prog (n0 + 7)) i_trunk [railD qs nx dp, .int L] [] [] S) (fun r S' => r = .tup ((jnt qs dp L 2).map natD) ∧ Fr [] S S') Mi.nx := by
  generalize hd : railD qs nx dp = dd
  refine ok_fn (fn := f_trunk) (ds := [dd, .int L]) rfl rfl ?_
  unfold f_trunk
  subst hd
  array_get_dec
  exact (t_joints n0 T hl 2 h1).mono fun r S' q => q
theorem t_pivots (n0 : Nat) {S : Store} (T : IsTree (qs.length + 1) (adjOf qs) nx dp) (hl : qs.length ≤ 100) {L : Nat} (h1 : 1 ≤ L) :
    Ok (callM Tt.T.prog (run Tt.T.prog (n0 + 7)) i_pivots [railD qs nx dp, .int L] [] [] S) (fun r S' => r = .tup ((jnt qs dp L 3).map natD) ∧ Fr [] S S') Mi.nx := by
  generalize hd : railD qs nx dp = dd
  refine ok_fn (fn := f_pivots) (ds := [dd, .int L]) rfl rfl ?_
  unfold f_pivots
  subst hd
  array_get_dec
  exact (t_joints n0 T hl 3 h1).mono fun r S' q => q
end
end Mi
set_option Elab.async false
set_option linter.all false
set_option maxRecDepth 100000
namespace Mi
open PySem L2 Tt
theorem rowOf_perm {p q : List (Nat × Nat)} (h : p.Perm q) (i : Nat) : (rowOf p i).Perm (rowOf q i) := by
  induction h with
  | nil => exact List.Perm.refl _
  | cons x _ ih =>
    obtain ⟨a, b⟩ := x
    simp only [rowOf]
    exact List.Perm.append_left _ ih
  | swap x y l =>
    obtain ⟨a, b⟩ := x
    obtain ⟨c, d⟩ := y
    simp only [rowOf]
    generalize ((if c = i then [d] else []) ++ if d = i then [c] else []) = u
    generalize ((if a = i then [b] else []) ++ if b = i then [a] else []) = v
    rw [← List.append_assoc, ← List.append_assoc]
    exact List.Perm.append_right _ List.perm_append_comm
  | trans _ _ ih1 ih2 => exact ih1.trans ih2
theorem Rail.of_perm {ps qs : List (Nat × Nat)} (h : Grown ps) (hp : qs.Perm ps) : ∃ nx dp, Rail qs nx dp := Rail.perm h hp fun i => rowOf_perm hp i
end Mi
set_option Elab.async false
set_option linter.all false
set_option maxRecDepth 100000
namespace Mi
open PySem L2 Tt
local macro_rules | `(tactic| array_get_dec) => `(tactic| simp only [wipeD, ok_exs, ok_exs0, go_next, go_ret, go_brk, go_cont, ok_sex, ok_ret, ok_set, ok_par, ok_seti, ok_seta, ok_site, ok_for, ok_pass, ok_brk, ok_cont, ok_v, ok_c, ok_g, ok_tup, ok_list, ok_mlist, ok_mdict, ok_mdictT, ok_edict, ok_bin, ok_mulm, ok_addm, ok_rngm, ok_neg, ok_cmp, ok_eqE, ok_cmp2, ok_isN, ok_isB, ok_not, ok_eite, ok_ix, ok_sl, ok_slm, ok_vals, ok_rev, ok_attr, ok_cattr, ok_call, ok_bc, ok_isi, ok_meth, ok_bm, ok_cm, ok_mk, ok_mkv, ok_mkx, ok_cs, ok_cmv, ok_lc2, ok_raise, ok_try, ok_fz, ok_lc, ok_evs0, ok_evs1, ok_evsS, ok_and, ok_or, ok_and1, ok_and2, ok_or1, ok_or2, ok_t0, ok_t1, ok_bind, ok_truth, b_add, b_sub, b_mul, b_fdiv, b_mod, b_pow, b_tup, b_list, ite_some, c_lt, c_le, c_gt, c_ge, c_eq, c_ne, eq_int, eq_str, Option.map_some, ix_list, ix_tup, len_list, len_tup, asg_n, asg_t, asgs_0, asgs_1, List.map_cons, List.map_nil, List.length_cons, List.length_nil, List.replicate_succ, List.replicate_zero, List.cons_append, List.nil_append, List.append_nil, Nat.reduceAdd, Nat.reduceSub, Nat.reduceLT, Nat.zero_add, Nat.lt_add_one, Nat.zero_lt_succ, Nat.succ_pos, List.set_cons_zero, List.set_cons_succ, List.getElem?_cons_zero, List.getElem?_cons_succ, Option.bind_some, Option.some.injEq, D.bool.injEq, D.int.injEq, exists_eq_left', exists_eq_left, exists_eq_right, exists_eq_right', exists_and_left, and_true, true_and, if_true, ne_eq, reduceCtorEq, not_false_eq_true, implies_true, if_pos, partE, exists_const, and_assoc, Prod.mk.injEq, if_false, Int.reduceToNat, Int.reducePow, Nat.reducePow, Int.reduceLT, Int.reduceLE, Int.reduceNeg, Int.reduceAdd, Int.reduceSub, Int.reduceMul, decide_eq_true_eq])
def lineL (m : Nat) : List (Nat × Nat) := (List.range m).map fun i => (i, i + 1)
def starL (m : Nat) : List (Nat × Nat) := (List.range m).map fun i => (0, i + 1)
theorem lineL_len (m : Nat) : (lineL m).length = m := by simp [lineL]
theorem starL_len (m : Nat) : (starL m).length = m := by simp [starL]
theorem line_grown : ∀ m, Grown (lineL m)
  | 0 => .nil
  | m + 1 => by
    have e : lineL (m + 1) = lineL m ++ [(m, (lineL m).length + 1)] := by
      rw [lineL_len]
      simp [lineL, List.range_succ]
    rw [e]
    exact .fore (line_grown m) (by rw [lineL_len]; exact Nat.le_refl _)
theorem star_grown : ∀ m, Grown (starL m)
  | 0 => .nil
  | m + 1 => by
    have e : starL (m + 1) = starL m ++ [(0, (starL m).length + 1)] := by
      rw [starL_len]
      simp [starL, List.range_succ]
    rw [e]
    exact .fore (star_grown m) (Nat.zero_le _)
theorem t_checkcnt {n0 : Nat} {S : Store} {n : Nat} (h1 : 1 ≤ n) (h2 : n ≤ 100) : callM Tt.T.prog (run Tt.T.prog (n0 + 2)) i_Railway_check_count [.int n] [] [] S = .ok .none S := by
  refine ok_same (ok_fn (fn := f_Railway_check_count) (ds := [.int n]) rfl rfl ?_)
  unfold f_Railway_check_count
  array_get_dec
  rw [t_isint (v := .int n) (k := "int") rfl, ok_ok]
  refine ⟨true, rfl, ?_⟩
  rw [if_neg (by simp), if_pos (show (1 : Int) ≤ (n : Int) by omega)]
  refine ⟨_, rfl, _, rfl, _, rfl, ?_⟩
  rw [if_neg (by simp; omega)]
theorem t_line {n0 : Nat} {S : Store} {m : Nat} (hm : m ≤ 99) {nx dp : Nat → Nat → Nat} (R : Rail (lineL m) nx dp) :
    Ok (callM Tt.T.prog (run Tt.T.prog (n0 + 6)) i_Railway_line [.cls 0, .int ((m + 1 : Nat) : Int)] [] [] S) (fun r S' => r = railD (lineL m) nx dp ∧ Fr [] S S') Mi.nx := by
  refine ok_fn (fn := f_Railway_line) (ds := [.cls 0, .int ((m + 1 : Nat) : Int)]) rfl rfl ?_
  unfold f_Railway_line
  array_get_dec
  refine ⟨i_Railway_check_count, rfl, ?_⟩
  rw [t_checkcnt (by omega) (by omega), ok_ok]
  try array_get_dec
  refine ⟨0, rfl, i_Railway_of, rfl, ?_⟩
  refine ⟨_, rng1_items (by omega) (by omega), ?_⟩
  rw [show ((m + 1 : Nat) : Int) - 1 = (m : Int) by omega, range0]
  have l2 : 2 ≤ line := by rw [show line = 16777216 from PySem.sizeLine_eq]; decide
  refine lc_mapF (fun i : Nat => D.int i) (fun i => pairD (i, i + 1)) (by rw [List.length_range, show line = 16777216 from PySem.sizeLine_eq]; omega) (fun i hi S' f hlt => ?_) fun S' f => ?_
  · rw [ok_lcT]
    refine ⟨_, rfl, ?_⟩
    array_get_dec
    exact ⟨l2, rfl, Fr.refl _ _⟩
  · have e : (List.range m).map (fun i => pairD (i, i + 1)) = (lineL m).map pairD := by
      unfold lineL
      rw [List.map_map]
      rfl
    rw [e]
    refine ⟨_, rfl, ?_⟩
    exact (t_of n0 S' _ R.T (by rw [lineL_len]; exact hm) R.nd R.sw R.rn).mono fun r S3 q => ⟨q.1, f.trans q.2⟩
theorem t_star {n0 : Nat} {S : Store} {m : Nat} (hm : m ≤ 99) {nx dp : Nat → Nat → Nat} (R : Rail (starL m) nx dp) :
    Ok (callM Tt.T.prog (run Tt.T.prog (n0 + 6)) i_Railway_star [.cls 0, .int ((m + 1 : Nat) : Int)] [] [] S) (fun r S' => r = railD (starL m) nx dp ∧ Fr [] S S') Mi.nx := by
  refine ok_fn (fn := f_Railway_star) (ds := [.cls 0, .int ((m + 1 : Nat) : Int)]) rfl rfl ?_
  unfold f_Railway_star
  array_get_dec
  refine ⟨i_Railway_check_count, rfl, ?_⟩
  rw [t_checkcnt (by omega) (by omega), ok_ok]
  try array_get_dec
  refine ⟨0, rfl, i_Railway_of, rfl, ?_⟩
  refine ⟨_, rng2_items (by decide) (by decide) (by omega) (by omega) (by omega), ?_⟩
  have e0 : rangeD 1 ((m + 1 : Nat) : Int) = (List.range m).map fun i : Nat => D.int (1 + (i : Int)) := by
    unfold rangeD
    rw [show (((m + 1 : Nat) : Int) - 1).toNat = m by omega]
  rw [e0]
  have l2 : 2 ≤ line := by rw [show line = 16777216 from PySem.sizeLine_eq]; decide
  refine lc_mapF (fun i : Nat => D.int (1 + (i : Int))) (fun i => pairD (0, i + 1)) (by rw [List.length_range, show line = 16777216 from PySem.sizeLine_eq]; omega) (fun i hi S' f hlt => ?_) fun S' f => ?_
  · rw [ok_lcT]
    refine ⟨_, rfl, ?_⟩
    array_get_dec
    refine ⟨l2, ?_, Fr.refl _ _⟩
    unfold pairD
    simp only [Int.natCast_add, Int.natCast_zero, Int.natCast_one, Int.add_comm]
  · have e : (List.range m).map (fun i => pairD (0, i + 1)) = (starL m).map pairD := by
      unfold starL
      rw [List.map_map]
      rfl
    rw [e]
    refine ⟨_, rfl, ?_⟩
    exact (t_of n0 S' _ R.T (by rw [starL_len]; exact hm) R.nd R.sw R.rn).mono fun r S3 q => ⟨q.1, f.trans q.2⟩
end Mi
set_option Elab.async false
set_option linter.all false
set_option maxRecDepth 100000
namespace Mi
open PySem L2
namespace IsTree
variable {n : Nat} {adj : Nat → Nat → Prop} {nx dp : Nat → Nat → Nat}
theorem relabel (T : IsTree n adj nx dp) {f g : Nat → Nat} (hf : ∀ i, i < n → f i < n ∧ g (f i) = i) (hg : ∀ i, i < n → g i < n ∧ f (g i) = i) {adj' : Nat → Nat → Prop} (ha : ∀ u v, adj' u v ↔ u < n ∧ v < n ∧ adj (g u) (g v)) :
    IsTree n adj' (fun s v => f (nx (g s) (g v))) (fun s v => dp (g s) (g v)) := by
  have gi : ∀ {i j}, i < n → j < n → i ≠ j → g i ≠ g j := fun {i j} hi hj h e => h (by rw [← (hg i hi).2, ← (hg j hj).2, e])
  refine ⟨fun s hs => ?_, fun s hs => ?_, fun s v hs hv => ?_, fun s v hs hv h => ?_, fun s v hs hv h => ?_, fun u v h => ?_, fun u v h => ?_, fun u v h => ?_, fun s u w hs h => ?_, fun s v hs hv => ?_⟩
  · show f (nx (g s) (g s)) = s
    rw [T.nxs _ (hg s hs).1, (hg s hs).2]
  · exact T.dps _ (hg s hs).1
  · exact (hf _ (T.nxlt _ _ (hg s hs).1 (hg v hv).1)).1
  · have h1 := T.nxlt _ _ (hg s hs).1 (hg v hv).1
    refine (ha _ _).mpr ⟨hv, (hf _ h1).1, ?_⟩
    show adj (g v) (g (f (nx (g s) (g v))))
    rw [(hf _ h1).2]
    exact T.nxadj _ _ (hg s hs).1 (hg v hv).1 (gi hv hs h)
  · have h1 := T.nxlt _ _ (hg s hs).1 (hg v hv).1
    show dp (g s) (g v) = dp (g s) (g (f (nx (g s) (g v)))) + 1
    rw [(hf _ h1).2]
    exact T.dpnx _ _ (hg s hs).1 (hg v hv).1 (gi hv hs h)
  · have := (ha _ _).mp h
    exact ⟨this.1, this.2.1⟩
  · obtain ⟨h1, h2, h3⟩ := (ha _ _).mp h
    exact (ha _ _).mpr ⟨h2, h1, T.sym _ _ h3⟩
  · obtain ⟨h1, h2, h3⟩ := (ha _ _).mp h
    exact fun e => T.irr _ _ h3 (by rw [e])
  · obtain ⟨h1, h2, h3⟩ := (ha _ _).mp h
    rcases T.t1 (g s) _ _ (hg s hs).1 h3 with e | e
    · exact .inl (by show f (nx (g s) (g u)) = w; rw [e, (hg w h2).2])
    · exact .inr (by show f (nx (g s) (g w)) = u; rw [e, (hg u h1).2])
  · exact T.dplt _ _ (hg s hs).1 (hg v hv).1
theorem congr_adj (T : IsTree n adj nx dp) {adj' : Nat → Nat → Prop} (ha : ∀ u v, adj' u v ↔ adj u v) : IsTree n adj' nx dp := by
  have e : adj' = adj := funext fun u => funext fun v => propext (ha u v)
  rw [e]; exact T
/-- the distance is what falls to 0 at s and changes by one along every edge towards it -/
theorem dist_unique (T : IsTree n adj nx dp) {s : Nat} (hs : s < n) {δ : Nat → Nat} (h0 : δ s = 0) (hd : ∀ v, v < n → v ≠ s → ∃ w, adj v w ∧ δ v = δ w + 1) (he : ∀ u w, adj u w → δ u ≤ δ w + 1) : ∀ v, v < n → dp s v = δ v := by
  have h1 : ∀ k v, v < n → δ v = k → dp s v ≤ k := by
    intro k
    induction k with
    | zero =>
      intro v hv hk
      rcases Nat.decEq v s with q | q
      · obtain ⟨w, _, e⟩ := hd v hv q; omega
      · rw [q, T.dps s hs]; exact Nat.le_refl _
    | succ k ih =>
      intro v hv hk
      rcases Nat.decEq v s with q | q
      · obtain ⟨w, ha, e⟩ := hd v hv q
        have h2 := ih w (T.lt _ _ ha).2 (by omega)
        rcases T.edge hs ha with ⟨_, _, e⟩ | ⟨_, _, e⟩ <;> omega
      · rw [q, T.dps s hs]; omega
  have h2 : ∀ k v, v < n → dp s v = k → δ v ≤ k := by
    intro k
    induction k with
    | zero =>
      intro v hv hk
      rw [(T.dp0 hs hv).mp hk, h0]
      exact Nat.le_refl _
    | succ k ih =>
      intro v hv hk
      have hne : v ≠ s := fun z => by rw [(T.dp0 hs hv).mpr z] at hk; omega
      have h3 := T.dpnx s v hs hv hne
      have h4 := ih (nx s v) (T.nxlt s v hs hv) (by omega)
      have h5 := he _ _ (T.nxadj s v hs hv hne)
      omega
  intro v hv
  exact Nat.le_antisymm (h1 _ v hv rfl) (h2 _ v hv rfl)
end IsTree
theorem nodup_mapOn {α β : Type} {f : α → β} : ∀ {l : List α}, l.Nodup → (∀ x ∈ l, ∀ y ∈ l, f x = f y → x = y) → (l.map f).Nodup
  | [], _, _ => List.nodup_nil
  | a :: l, h, hi => by
    obtain ⟨h1, h2⟩ := List.nodup_cons.mp h
    refine List.nodup_cons.mpr ⟨fun z => ?_, nodup_mapOn h2 fun x hx y hy e => hi x (List.mem_cons_of_mem _ hx) y (List.mem_cons_of_mem _ hy) e⟩
    obtain ⟨b, hb, e⟩ := List.mem_map.mp z
    have := hi b (List.mem_cons_of_mem _ hb) a (List.mem_cons_self ..) e
    rw [this] at hb
    exact h1 hb
/-- no two tracks between the same stations -/
def NoDbl (qs : List (Nat × Nat)) : Prop := qs.Nodup ∧ ∀ a b, (a, b) ∈ qs → (b, a) ∉ qs
theorem rowOf_nodup : ∀ {qs : List (Nat × Nat)} (h : NoDbl qs) (hi : ∀ p ∈ qs, p.1 ≠ p.2) (i : Nat), (rowOf qs i).Nodup
  | [], _, _, _ => List.nodup_nil
  | (a, b) :: r, ⟨h1, h2⟩, hi, i => by
    have ih : (rowOf r i).Nodup := rowOf_nodup ⟨(List.nodup_cons.mp h1).2, fun c d hc hd => h2 c d (List.mem_cons_of_mem _ hc) (List.mem_cons_of_mem _ hd)⟩ (fun p hp => hi p (List.mem_cons_of_mem _ hp)) i
    have hab : a ≠ b := hi (a, b) (List.mem_cons_self ..)
    have n1 : (a, b) ∉ r := (List.nodup_cons.mp h1).1
    have n2 : (b, a) ∉ r := fun z => h2 a b (List.mem_cons_self ..) (List.mem_cons_of_mem _ z)
    simp only [rowOf]
    by_cases e1 : a = i
    · have e2 : b ≠ i := fun z => hab (by rw [e1, z])
      rw [if_pos e1, if_neg e2, List.append_nil]
      refine List.nodup_cons.mpr ⟨fun z => ?_, ih⟩
      rcases (rowOf_mem.mp (by simpa using z) : adjOf r i b) with z | z
      · exact n1 (by rw [e1]; exact z)
      · exact n2 (by rw [e1]; exact z)
    · rw [if_neg e1]
      by_cases e2 : b = i
      · rw [if_pos e2]
        refine List.nodup_cons.mpr ⟨fun z => ?_, ih⟩
        rcases (rowOf_mem.mp (by simpa using z) : adjOf r i a) with z | z
        · exact n2 (by rw [e2]; exact z)
        · exact n1 (by rw [e2]; exact z)
      · rw [if_neg e2]
        exact ih
theorem Rail.mk' {qs : List (Nat × Nat)} {nx dp : Nat → Nat → Nat} (T : IsTree (qs.length + 1) (adjOf qs) nx dp) (h : NoDbl qs) : Rail qs nx dp := by
  have lt : ∀ p ∈ qs, p.1 < qs.length + 1 ∧ p.2 < qs.length + 1 ∧ p.1 ≠ p.2 := fun p hp => by
    have ha : adjOf qs p.1 p.2 := .inl hp
    exact ⟨(T.lt _ _ ha).1, (T.lt _ _ ha).2, T.irr _ _ ha⟩
  exact ⟨T, h.1, h.2, rowOf_nodup h fun p hp => (lt p hp).2.2, lt⟩
theorem Rail.of_und {qs rs : List (Nat × Nat)} {nx dp : Nat → Nat → Nat} (R : Rail qs nx dp) (hl : rs.length = qs.length) (h : NoDbl rs) (ha : ∀ u v, adjOf rs u v ↔ adjOf qs u v) : Rail rs nx dp :=
  Rail.mk' (by rw [hl]; exact R.T.congr_adj ha) h
theorem Rail.perm' {qs rs : List (Nat × Nat)} {nx dp : Nat → Nat → Nat} (R : Rail qs nx dp) (hp : rs.Perm qs) : Rail rs nx dp :=
  R.of_und hp.length_eq ⟨hp.nodup_iff.mpr R.nd, fun a b h1 h2 => R.sw a b (hp.mem_iff.mp h1) (hp.mem_iff.mp h2)⟩ fun u v => by rw [adj_perm hp]
def Lab (vs : List Nat) (es : List (Nat × Nat)) : Prop := ∃ ps, Grown ps ∧ vs.Nodup ∧ vs.length = ps.length + 1 ∧ es.Perm (ps.map fun p => (vs.getD p.1 0, vs.getD p.2 0))
theorem Lab.one (v : Nat) : Lab [v] [] := ⟨[], .nil, by simp, rfl, List.Perm.refl _⟩
theorem getD_app {vs : List Nat} {v i : Nat} (h : i < vs.length) : (vs ++ [v]).getD i 0 = vs.getD i 0 := by
  simp [List.getD, List.getElem?_append_left h]
theorem getD_last {vs : List Nat} {v : Nat} : (vs ++ [v]).getD vs.length 0 = v := by simp [List.getD]
theorem getD_idx {vs : List Nat} {b : Nat} (h : b ∈ vs) : vs.getD (vs.idxOf b) 0 = b := by
  have h1 := List.idxOf_lt_length_of_mem h
  simp [List.getD, List.getElem?_eq_getElem h1]
theorem Lab.add {vs : List Nat} {es es' : List (Nat × Nat)} {b v : Nat} (L : Lab vs es) (hb : b ∈ vs) (hv : v ∉ vs) (he : es'.Perm ((b, v) :: es) ∨ es'.Perm ((v, b) :: es)) : Lab (vs ++ [v]) es' := by
  obtain ⟨ps, hg, hn, hl, hp⟩ := L
  have hi := List.idxOf_lt_length_of_mem hb
  have hlt := hg.lt
  have nd : (vs ++ [v]).Nodup := List.nodup_append.mpr ⟨hn, by simp, fun x hx y hy => by
    have : y = v := by simpa using hy
    subst this
    exact fun z => hv (by rw [← z]; exact hx)⟩
  have hm : (ps.map fun p => ((vs ++ [v]).getD p.1 0, (vs ++ [v]).getD p.2 0)) = ps.map fun p => (vs.getD p.1 0, vs.getD p.2 0) := by
    refine List.map_congr_left fun p hp => ?_
    have := hlt p hp
    rw [getD_app (by omega), getD_app (by omega)]
  have hb' : (vs ++ [v]).getD (vs.idxOf b) 0 = b := by rw [getD_app hi, getD_idx hb]
  have hv' : (vs ++ [v]).getD (ps.length + 1) 0 = v := by rw [← hl]; exact getD_last
  rcases he with he | he
  · refine ⟨ps ++ [(vs.idxOf b, ps.length + 1)], .fore hg (by omega), nd, by simp [hl], ?_⟩
    rw [List.map_append, hm]
    simp only [List.map_cons, List.map_nil, hb', hv']
    exact he.trans ((List.Perm.cons _ hp).trans (List.perm_append_singleton _ _).symm)
  · refine ⟨ps ++ [(ps.length + 1, vs.idxOf b)], .back hg (by omega), nd, by simp [hl], ?_⟩
    rw [List.map_append, hm]
    simp only [List.map_cons, List.map_nil, hb', hv']
    exact he.trans ((List.Perm.cons _ hp).trans (List.perm_append_singleton _ _).symm)
theorem Lab.rail {vs : List Nat} {es : List (Nat × Nat)} (L : Lab vs es) (hr : vs.Perm (List.range vs.length)) : ∃ nx dp, Rail es nx dp := by
  obtain ⟨ps, hg, hn, hl, hp⟩ := L
  obtain ⟨nx, dp, R⟩ := Rail.of_perm hg (List.Perm.refl _)
  have hf : ∀ i, i < ps.length + 1 → vs.getD i 0 < ps.length + 1 ∧ vs.idxOf (vs.getD i 0) = i := fun i hi => by
    have hi' : i < vs.length := by omega
    have e : vs.getD i 0 = vs[i] := by simp [List.getD, List.getElem?_eq_getElem hi']
    rw [e]
    refine ⟨by rw [← hl]; exact List.mem_range.mp (hr.mem_iff.mp (List.getElem_mem hi')), hn.idxOf_getElem i hi'⟩
  have hgm : ∀ i, i < ps.length + 1 → vs.idxOf i < ps.length + 1 ∧ vs.getD (vs.idxOf i) 0 = i := fun i hi => by
    have hm : i ∈ vs := hr.mem_iff.mpr (List.mem_range.mpr (by omega))
    exact ⟨by rw [← hl]; exact List.idxOf_lt_length_of_mem hm, getD_idx hm⟩
  have hlt := hg.lt
  have inj : ∀ {i j}, i < ps.length + 1 → j < ps.length + 1 → vs.getD i 0 = vs.getD j 0 → i = j := fun {i j} hi hj h => by rw [← (hf i hi).2, ← (hf j hj).2, h]
  have hadj : ∀ u v, adjOf (ps.map fun p => (vs.getD p.1 0, vs.getD p.2 0)) u v ↔ u < ps.length + 1 ∧ v < ps.length + 1 ∧ adjOf ps (vs.idxOf u) (vs.idxOf v) := by
    have key : ∀ u v, (u, v) ∈ (ps.map fun p => (vs.getD p.1 0, vs.getD p.2 0)) ↔ u < ps.length + 1 ∧ v < ps.length + 1 ∧ (vs.idxOf u, vs.idxOf v) ∈ ps := fun u v => by
      constructor
      · intro h
        obtain ⟨p, hp, e⟩ := List.mem_map.mp h
        obtain ⟨h1, h2, _⟩ := hlt p hp
        simp only [Prod.mk.injEq] at e
        obtain ⟨rfl, rfl⟩ := e
        refine ⟨(hf _ h1).1, (hf _ h2).1, ?_⟩
        rw [(hf _ h1).2, (hf _ h2).2]
        exact hp
      · rintro ⟨h1, h2, h3⟩
        refine List.mem_map.mpr ⟨_, h3, ?_⟩
        show (vs.getD (vs.idxOf u) 0, vs.getD (vs.idxOf v) 0) = (u, v)
        rw [(hgm u h1).2, (hgm v h2).2]
    intro u v
    unfold adjOf
    rw [key, key]
    constructor
    · rintro (⟨h1, h2, h3⟩ | ⟨h1, h2, h3⟩)
      · exact ⟨h1, h2, .inl h3⟩
      · exact ⟨h2, h1, .inr h3⟩
    · rintro ⟨h1, h2, h3 | h3⟩
      · exact .inl ⟨h1, h2, h3⟩
      · exact .inr ⟨h2, h1, h3⟩
  have T := R.T.relabel hf hgm hadj
  have hnd : NoDbl (ps.map fun p => (vs.getD p.1 0, vs.getD p.2 0)) := by
    refine ⟨?_, fun a b h1 h2 => ?_⟩
    · refine nodup_mapOn R.nd ?_
      intro p hp q hq e
      obtain ⟨p1, p2⟩ := p
      obtain ⟨q1, q2⟩ := q
      obtain ⟨h1, h2, _⟩ := hlt _ hp
      obtain ⟨h3, h4, _⟩ := hlt _ hq
      simp only [Prod.mk.injEq] at e
      have e1 : p1 = q1 := inj h1 h3 e.1
      have e2 : p2 = q2 := inj h2 h4 e.2
      rw [e1, e2]
    · obtain ⟨p, hp, e⟩ := List.mem_map.mp h1
      obtain ⟨q, hq, e'⟩ := List.mem_map.mp h2
      obtain ⟨p1, p2⟩ := p
      obtain ⟨q1, q2⟩ := q
      obtain ⟨g1, g2, _⟩ := hlt _ hp
      obtain ⟨g3, g4, _⟩ := hlt _ hq
      simp only [Prod.mk.injEq] at e e'
      have z1 : p1 = q2 := inj g1 g4 (e.1.trans e'.2.symm)
      have z2 : p2 = q1 := inj g2 g3 (e.2.trans e'.1.symm)
      subst z1 z2
      exact R.sw _ _ hp hq
  have R2 : Rail (ps.map fun p => (vs.getD p.1 0, vs.getD p.2 0)) _ _ := Rail.mk' (by rw [List.length_map]; exact T) hnd
  exact ⟨_, _, R2.perm' hp⟩
end Mi
set_option Elab.async false
set_option linter.all false
set_option maxRecDepth 100000
namespace Mi
open PySem L2 Tt
local macro_rules | `(tactic| array_get_dec) => `(tactic| simp only [wipeD, ok_exs, ok_exs0, go_next, go_ret, go_brk, go_cont, ok_sex, ok_ret, ok_set, ok_par, ok_seti, ok_seta, ok_site, ok_for, ok_pass, ok_brk, ok_cont, ok_v, ok_c, ok_g, ok_tup, ok_list, ok_mlist, ok_mdict, ok_mdictT, ok_edict, ok_bin, ok_mulm, ok_addm, ok_rngm, ok_neg, ok_cmp, ok_eqE, ok_cmp2, ok_isN, ok_isB, ok_not, ok_eite, ok_ix, ok_sl, ok_slm, ok_vals, ok_rev, ok_attr, ok_cattr, ok_call, ok_bc, ok_isi, ok_meth, ok_bm, ok_cm, ok_mk, ok_mkv, ok_mkx, ok_cs, ok_cmv, ok_lc2, ok_raise, ok_try, ok_fz, ok_lc, ok_evs0, ok_evs1, ok_evsS, ok_and, ok_or, ok_and1, ok_and2, ok_or1, ok_or2, ok_t0, ok_t1, ok_bind, ok_truth, b_add, b_sub, b_mul, b_fdiv, b_mod, b_pow, b_tup, b_list, ite_some, c_lt, c_le, c_gt, c_ge, c_eq, c_ne, eq_int, eq_str, Option.map_some, ix_list, ix_tup, len_list, len_tup, asg_n, asg_t, asgs_0, asgs_1, List.map_cons, List.map_nil, List.length_cons, List.length_nil, List.replicate_succ, List.replicate_zero, List.cons_append, List.nil_append, List.append_nil, Nat.reduceAdd, Nat.reduceSub, Nat.reduceLT, Nat.zero_add, Nat.lt_add_one, Nat.zero_lt_succ, Nat.succ_pos, List.set_cons_zero, List.set_cons_succ, List.getElem?_cons_zero, List.getElem?_cons_succ, Option.bind_some, Option.some.injEq, D.bool.injEq, D.int.injEq, exists_eq_left', exists_eq_left, exists_eq_right, exists_eq_right', exists_and_left, and_true, true_and, if_true, ne_eq, reduceCtorEq, not_false_eq_true, implies_true, if_pos, partE, exists_const, and_assoc, Prod.mk.injEq, if_false, Int.reduceToNat, Int.reducePow, Nat.reducePow, Int.reduceLT, Int.reduceLE, Int.reduceNeg, Int.reduceAdd, Int.reduceSub, Int.reduceMul, decide_eq_true_eq])
theorem ints_tabF {α : Type} (f : α → Nat) : ∀ l : List α, intsOf (l.map fun v => natD (f v)) = some (l.map fun v => (f v : Int))
  | [] => rfl
  | x :: l => by
    show (intsOf (l.map fun v => natD (f v))).map ((f x : Int) :: ·) = _
    rw [ints_tabF f l]
    rfl
theorem maxI_some : ∀ {l : List Int}, 0 < l.length → ∃ m, maxI l = some m
  | _ :: _, _ => ⟨_, rfl⟩
def eccF (n : Nat) (f : Nat → Nat) : Nat := ((maxI ((List.range n).map fun v => (f v : Int))).getD 0).toNat
theorem ecc_spec {n : Nat} {f : Nat → Nat} (hn : 0 < n) : maxI ((List.range n).map fun v => (f v : Int)) = some (eccF n f : Int) ∧ (∃ v, v < n ∧ f v = eccF n f) ∧ ∀ v, v < n → f v ≤ eccF n f := by
  obtain ⟨m, hm⟩ := maxI_some (l := (List.range n).map fun v => (f v : Int)) (by simpa using hn)
  obtain ⟨h1, h2, _⟩ := maxI_of hm
  obtain ⟨v, hv, rfl⟩ := List.mem_map.mp h1
  have e : eccF n f = f v := by
    unfold eccF
    rw [hm]
    simp
  rw [e]
  exact ⟨hm, ⟨v, List.mem_range.mp hv, rfl⟩, fun w hw => by
    have := h2 _ (List.mem_map.mpr ⟨w, List.mem_range.mpr hw, rfl⟩)
    omega⟩
theorem max_tab {S : Store} {n : Nat} {f : Nat → Nat} (hn : 0 < n) : bfn .max1 S [.list (tab n f)] = some (.int (eccF n f : Nat)) := by
  show ((((intsOf (tab n f))).bind maxI).map D.int) = _
  unfold tab
  rw [ints_tabF f]
  show ((maxI ((List.range n).map fun v => (f v : Int))).map D.int) = _
  rw [(ecc_spec hn).1]
  rfl
section
variable {qs : List (Nat × Nat)} {nx dp : Nat → Nat → Nat}
theorem t_diam {n0 : Nat} {S : Store} (R : Rail qs nx dp) (hl : qs.length ≤ 99) {M : Nat} (h1 : ∃ s v, s < qs.length + 1 ∧ v < qs.length + 1 ∧ dp s v = M) (h2 : ∀ s v, s < qs.length + 1 → v < qs.length + 1 → dp s v ≤ M) :
    Ok (callM Tt.T.prog (run Tt.T.prog (n0 + 1)) i_diameter [railD qs nx dp] [] [] S) (fun r S' => r = .int M ∧ Fr [] S S') Mi.nx := by
  generalize hd : railD qs nx dp = dd
  refine ok_fn (fn := f_diameter) (ds := [dd]) rfl rfl ?_
  unfold f_diameter
  subst hd
  array_get_dec
  rw [ok_getO (k := 1) rfl rfl]
  refine ⟨_, rfl, ?_⟩
  refine lc_mapF (l := List.range (qs.length + 1)) (fun s => .list (tab (qs.length + 1) (dp s))) (fun s => natD (eccF (qs.length + 1) (dp s))) (by rw [List.length_range, show line = 16777216 from PySem.sizeLine_eq]; omega) (fun s hs S' f hlt => ?_) fun S' f => ?_
  · rw [ok_lcT]
    refine ⟨_, rfl, ?_⟩
    array_get_dec
    exact ⟨_, max_tab (show 0 < qs.length + 1 by omega), rfl, Fr.refl _ _⟩
  · have e := max_tab (S := S') (f := fun s => eccF (qs.length + 1) (dp s)) (show 0 < qs.length + 1 by omega)
    unfold tab at e
    refine ⟨_, e, ?_, f⟩
    obtain ⟨_, ⟨s, hs, e1⟩, h3⟩ := ecc_spec (f := fun s => eccF (qs.length + 1) (dp s)) (show 0 < qs.length + 1 by omega)
    obtain ⟨_, ⟨v, hv, e2⟩, _⟩ := ecc_spec (f := dp s) (show 0 < qs.length + 1 by omega)
    obtain ⟨s2, v2, hs2, hv2, e3⟩ := h1
    have h4 := h3 s2 hs2
    obtain ⟨_, _, h5⟩ := ecc_spec (f := dp s2) (show 0 < qs.length + 1 by omega)
    have h6 := h5 v2 hv2
    have h7 := h2 s v hs hv
    have e4 : eccF (qs.length + 1) (fun s => eccF (qs.length + 1) (dp s)) = M := by
      omega
    rw [e4]
end
section
variable {m : Nat} {nx dp : Nat → Nat → Nat}
theorem line_adj {u v : Nat} : adjOf (lineL m) u v ↔ (u < m ∧ v = u + 1) ∨ (v < m ∧ u = v + 1) := by
  unfold adjOf lineL
  simp only [List.mem_map, List.mem_range, Prod.mk.injEq]
  constructor
  · rintro (⟨i, h, rfl, rfl⟩ | ⟨i, h, rfl, rfl⟩)
    · exact .inl ⟨h, rfl⟩
    · exact .inr ⟨h, rfl⟩
  · rintro (⟨h, rfl⟩ | ⟨h, rfl⟩)
    · exact .inl ⟨u, h, rfl, rfl⟩
    · exact .inr ⟨v, h, rfl, rfl⟩
theorem star_adj {u v : Nat} : adjOf (starL m) u v ↔ (u = 0 ∧ 0 < v ∧ v ≤ m) ∨ (v = 0 ∧ 0 < u ∧ u ≤ m) := by
  unfold adjOf starL
  simp only [List.mem_map, List.mem_range, Prod.mk.injEq]
  constructor
  · rintro (⟨i, h, rfl, rfl⟩ | ⟨i, h, rfl, rfl⟩)
    · exact .inl ⟨rfl, Nat.succ_pos _, h⟩
    · exact .inr ⟨rfl, Nat.succ_pos _, h⟩
  · rintro (⟨rfl, h1, h2⟩ | ⟨rfl, h1, h2⟩)
    · exact .inl ⟨v - 1, by omega, rfl, by omega⟩
    · exact .inr ⟨u - 1, by omega, rfl, by omega⟩
theorem line_dp (R : Rail (lineL m) nx dp) {v : Nat} (hv : v < m + 1) : dp 0 v = v := by
  have T := R.T
  rw [lineL_len] at T
  refine T.dist_unique (s := 0) (δ := fun v => v) (by omega) rfl (fun v hv hne => ?_) (fun u w h => ?_) v hv
  · exact ⟨v - 1, line_adj.mpr (.inr ⟨by omega, by omega⟩), by omega⟩
  · rcases line_adj.mp h with ⟨_, h⟩ | ⟨_, h⟩
    · show u ≤ w + 1; omega
    · show u ≤ w + 1; omega
theorem star_dp (R : Rail (starL m) nx dp) : (∃ s v, s < m + 1 ∧ v < m + 1 ∧ dp s v = min 2 m) ∧ ∀ s v, s < m + 1 → v < m + 1 → dp s v ≤ min 2 m := by
  have T := R.T
  rw [starL_len] at T
  have d0 : ∀ v, v < m + 1 → dp 0 v ≤ 1 := fun v hv => by
    rcases Nat.eq_zero_or_pos v with q | q
    · rw [q, T.dps 0 (by omega)]; omega
    · rw [T.dp_adj (star_adj.mpr (.inl ⟨rfl, q, by omega⟩))]; omega
  have up : ∀ s v, s < m + 1 → v < m + 1 → dp s v ≤ 2 := fun s v hs hv => by
    have h1 := T.triangle hs (show 0 < m + 1 by omega) hv
    have h2 := d0 s hs
    have h3 := d0 v hv
    have h4 := T.dp_sym (show 0 < m + 1 by omega) hs
    omega
  refine ⟨?_, fun s v hs hv => ?_⟩
  · rcases Nat.lt_or_ge m 2 with q | q
    · have : m = 0 ∨ m = 1 := by omega
      rcases this with rfl | rfl
      · exact ⟨0, 0, by omega, by omega, T.dps 0 (by omega)⟩
      · exact ⟨0, 1, by omega, by omega, T.dp_adj (star_adj.mpr (.inl ⟨rfl, by omega, by omega⟩))⟩
    · refine ⟨1, 2, by omega, by omega, ?_⟩
      have h1 := up 1 2 (by omega) (by omega)
      have h2 : dp 1 2 ≠ 0 := fun z => by have := (T.dp0 (by omega) (by omega)).mp z; omega
      have h3 : dp 1 2 ≠ 1 := fun z => by
        have := star_adj.mp (T.adj_of_one (by omega) (by omega) z)
        omega
      omega
  · have h1 := up s v hs hv
    have h2 := T.dplt s v hs hv
    omega
end
end Mi
set_option Elab.async false
set_option linter.all false
set_option maxRecDepth 100000
namespace Mi
open PySem L2 Tt
local macro_rules | `(tactic| array_get_dec) => `(tactic| simp only [wipeD, ok_exs, ok_exs0, go_next, go_ret, go_brk, go_cont, ok_sex, ok_ret, ok_set, ok_par, ok_seti, ok_seta, ok_site, ok_for, ok_pass, ok_brk, ok_cont, ok_v, ok_c, ok_g, ok_tup, ok_list, ok_mlist, ok_mdict, ok_mdictT, ok_edict, ok_bin, ok_mulm, ok_addm, ok_rngm, ok_neg, ok_cmp, ok_eqE, ok_cmp2, ok_isN, ok_isB, ok_not, ok_eite, ok_ix, ok_sl, ok_slm, ok_vals, ok_rev, ok_attr, ok_cattr, ok_call, ok_bc, ok_isi, ok_meth, ok_bm, ok_cm, ok_mk, ok_mkv, ok_mkx, ok_cs, ok_cmv, ok_lc2, ok_raise, ok_try, ok_fz, ok_lc, ok_evs0, ok_evs1, ok_evsS, ok_and, ok_or, ok_and1, ok_and2, ok_or1, ok_or2, ok_t0, ok_t1, ok_bind, ok_truth, b_add, b_sub, b_mul, b_fdiv, b_mod, b_pow, b_tup, b_list, ite_some, c_lt, c_le, c_gt, c_ge, c_eq, c_ne, eq_int, eq_str, Option.map_some, ix_list, ix_tup, len_list, len_tup, asg_n, asg_t, asgs_0, asgs_1, List.map_cons, List.map_nil, List.length_cons, List.length_nil, List.replicate_succ, List.replicate_zero, List.cons_append, List.nil_append, List.append_nil, Nat.reduceAdd, Nat.reduceSub, Nat.reduceLT, Nat.zero_add, Nat.lt_add_one, Nat.zero_lt_succ, Nat.succ_pos, List.set_cons_zero, List.set_cons_succ, List.getElem?_cons_zero, List.getElem?_cons_succ, Option.bind_some, Option.some.injEq, D.bool.injEq, D.int.injEq, exists_eq_left', exists_eq_left, exists_eq_right, exists_eq_right', exists_and_left, and_true, true_and, if_true, ne_eq, reduceCtorEq, not_false_eq_true, implies_true, if_pos, partE, exists_const, and_assoc, Prod.mk.injEq, if_false, Int.reduceToNat, Int.reducePow, Nat.reducePow, Int.reduceLT, Int.reduceLE, Int.reduceNeg, Int.reduceAdd, Int.reduceSub, Int.reduceMul, decide_eq_true_eq])
noncomputable def rowD (qs : List (Nat × Nat)) (i : Nat) : D := .list ((srt (rowOf qs i)).map natD)
theorem t_around (n0 : Nat) (S : Store) (qs : List (Nat × Nat)) (hq : ∀ p ∈ qs, p.1 < qs.length + 1 ∧ p.2 < qs.length + 1 ∧ p.1 ≠ p.2) (hl : qs.length ≤ 200) :
    Ok (callM T.prog (run T.prog (n0 + 1)) i__law_around [.tup (qs.map pairD)] [] [] S) (fun r S' => r = .list ((List.range (qs.length + 1)).map (rowD qs)) ∧ Fr [] S S') nx := by
  generalize hd : D.tup (qs.map pairD) = dd
  refine ok_fn (fn := f__law_around) (ds := [dd]) rfl rfl ?_
  subst hd
  unfold f__law_around
  try array_get_dec
  refine ⟨_, rng1_items (by simp; omega) (by simp; omega), ?_⟩
  rw [show ((List.map pairD qs).length : Int) + 1 = ((qs.length + 1 : Nat) : Int) by simp]
  refine rows_made (by simp) (by omega) fun S1 hS1 hc1 f1 => ?_
  try array_get_dec
  refine ⟨_, rfl, ?_⟩
  refine rows_filled (f := 1) (o := 2) (t := 3) rfl (by decide) (by decide) (by decide) (by simp) (by simp) hq hl f1 (by omega) hc1 fun x y S2 hrow hlen f2 hk => ?_
  try array_get_dec
  refine ⟨_, rfl, ?_⟩
  refine lc_inv (fun rest acc S' => ∃ k, k ≤ qs.length + 1 ∧ rest = (List.range' k (qs.length + 1 - k)).map (fun i => D.ref (S.length + 1 + i)) ∧ acc = (List.range k).map (rowD qs) ∧ (∀ i, i < qs.length + 1 → S'[S.length + 1 + i]? = some (.list ((rowOf qs i).map natD))) ∧ Fr [] S S')
    ⟨0, Nat.zero_le _, by unfold refs; rw [List.range_eq_range']; rfl, rfl, fun i hi => by rw [List.getElem?_append_left (get_lt (hrow i hi))]; exact hrow i hi, f2.trans (Fr.app _ _ _)⟩ ?_ ?_
  · rintro z ys acc S' ⟨k, hk2, hr, rfl, hc, f⟩ hacc
    have hlt : k < qs.length + 1 := by
      rcases Nat.lt_or_ge k (qs.length + 1) with q | q
      · exact q
      · rw [show qs.length + 1 - k = 0 by omega] at hr; cases hr
    rw [show qs.length + 1 - k = (qs.length + 1 - (k + 1)) + 1 by omega, List.range'_succ, List.map_cons] at hr
    obtain ⟨rfl, rfl⟩ := List.cons.inj hr
    refine ⟨by rw [List.length_map, List.length_range]; exact Nat.lt_of_lt_of_le (show k < 1000 by omega) (by decide), ?_⟩
    rw [ok_lcT]
    refine ⟨_, rfl, ?_⟩
    try array_get_dec
    obtain ⟨s1, s2⟩ := srt_spec (row_line hl k)
    refine ⟨_, by rw [sorted_ref (hc k hlt), s2]; rfl, hacc, k + 1, by omega, rfl, ?_, fun i hi => ?_, f.setNew (by omega)⟩
    · rw [List.range_succ, List.map_append]
      rfl
    · have h3 := get_lt (hrow i hi)
      rw [get_ne (by omega)]; exact hc i hi
  · rintro acc S' ⟨k, hk2, hr, rfl, hc, f⟩ hacc
    have hkn : k = qs.length + 1 := by
      have := congrArg List.length hr
      simp at this
      omega
    subst hkn
    exact ⟨rfl, f.setNew (by omega)⟩
end Mi
set_option Elab.async false
set_option linter.all false
set_option maxRecDepth 100000
namespace Mi
open PySem L2 Tt
local macro_rules | `(tactic| array_get_dec) => `(tactic| simp only [wipeD, ok_exs, ok_exs0, go_next, go_ret, go_brk, go_cont, ok_sex, ok_ret, ok_set, ok_par, ok_seti, ok_seta, ok_site, ok_for, ok_pass, ok_brk, ok_cont, ok_v, ok_c, ok_g, ok_tup, ok_list, ok_mlist, ok_mdict, ok_mdictT, ok_edict, ok_bin, ok_mulm, ok_addm, ok_rngm, ok_neg, ok_cmp, ok_eqE, ok_cmp2, ok_isN, ok_isB, ok_not, ok_eite, ok_ix, ok_sl, ok_slm, ok_vals, ok_rev, ok_attr, ok_cattr, ok_call, ok_bc, ok_isi, ok_meth, ok_bm, ok_cm, ok_mk, ok_mkv, ok_mkx, ok_cs, ok_cmv, ok_lc2, ok_raise, ok_try, ok_fz, ok_lc, ok_evs0, ok_evs1, ok_evsS, ok_and, ok_or, ok_and1, ok_and2, ok_or1, ok_or2, ok_t0, ok_t1, ok_bind, ok_truth, b_add, b_sub, b_mul, b_fdiv, b_mod, b_pow, b_tup, b_list, ite_some, c_lt, c_le, c_gt, c_ge, c_eq, c_ne, eq_int, eq_str, Option.map_some, ix_list, ix_tup, len_list, len_tup, asg_n, asg_t, asgs_0, asgs_1, List.map_cons, List.map_nil, List.length_cons, List.length_nil, List.replicate_succ, List.replicate_zero, List.cons_append, List.nil_append, List.append_nil, Nat.reduceAdd, Nat.reduceSub, Nat.reduceLT, Nat.zero_add, Nat.lt_add_one, Nat.zero_lt_succ, Nat.succ_pos, List.set_cons_zero, List.set_cons_succ, List.getElem?_cons_zero, List.getElem?_cons_succ, Option.bind_some, Option.some.injEq, D.bool.injEq, D.int.injEq, exists_eq_left', exists_eq_left, exists_eq_right, exists_eq_right', exists_and_left, and_true, true_and, if_true, ne_eq, reduceCtorEq, not_false_eq_true, implies_true, if_pos, partE, exists_const, and_assoc, Prod.mk.injEq, if_false, Int.reduceToNat, Int.reducePow, Nat.reducePow, Int.reduceLT, Int.reduceLE, Int.reduceNeg, Int.reduceAdd, Int.reduceSub, Int.reduceMul, decide_eq_true_eq])
open IsTree in
theorem t_paths2 (n0 : Nat) (S : Store) (qs : List (Nat × Nat)) {nx dp : Nat → Nat → Nat} (T : IsTree (qs.length + 1) (adjOf qs) nx dp) (hl : qs.length ≤ 100) (s : Nat) (hs : s < qs.length + 1) :
    Ok (callM Tt.T.prog (run Tt.T.prog (n0 + 1)) i__law_paths [.list ((List.range (qs.length + 1)).map (rowD qs)), .int s] [] [] S) (fun r S' => ∃ vs, r = .ref S.length ∧ S'[S.length]? = some (.dK (nkv (fun v => .tup ((pth nx dp s v).map natD)) vs)) ∧ (∀ v, v < qs.length + 1 → v ∈ vs) ∧ (∀ v ∈ vs, v < qs.length + 1) ∧ vs.Nodup ∧ Fr [] S S') Mi.nx := by
  generalize hd : D.list ((List.range (qs.length + 1)).map (rowD qs)) = dd
  refine ok_fn (fn := f__law_paths) (ds := [dd, .int s]) rfl rfl ?_
  subst hd
  unfold f__law_paths
  array_get_dec
  refine ⟨by decide, _, rfl, get_new, by decide, ?_⟩
  simp only [List.length_set, List.length_append, List.length_cons, List.length_nil, ok_while]
  refine while_inv (fun k η S' => ∃ dn q o4 o5, k = qs.length + 1 - dn.length ∧ (dn ++ q).Nodup ∧ s ∈ dn ++ q ∧ (∀ v ∈ dn ++ q, v < qs.length + 1) ∧ (∀ v ∈ dn ++ q, v ≠ s → nx s v ∈ dn) ∧ (∀ u ∈ dn, ∀ w, adjOf qs u w → w ∈ dn ++ q) ∧
    η = [some (D.list ((List.range (qs.length + 1)).map (rowD qs))), some (D.int s), some (D.ref S.length), some (D.ref (S.length + 1)), o4, o5] ∧ S'[S.length]? = some (.dK (nkv (fun v => .tup ((pth nx dp s v).map natD)) (dn ++ q))) ∧ S'[S.length + 1]? = some (.list (q.map natD)) ∧ Fr [] S S')
    (k := qs.length + 1) (by omega) ⟨[], [s], none, none, by simp, by simp, by simp, by simpa using hs, ?_, by simp, rfl, ?_, ?_, ?_⟩ ?_
  · intro v hv hne
    exact absurd (by simpa using hv) hne
  · rw [List.getElem?_append_left (by simp), List.getElem?_set_self (by simp)]
    show _ = some (Cell.dK [(Sum.inl (s : Int), D.tup ((pth nx dp s s).map natD))])
    rw [T.pth_self hs]
    rfl
  · rw [List.getElem?_append_right (by simp)]
    simp
  · refine ⟨by simp, fun m hm _ => ?_⟩
    rw [List.getElem?_append_left (by simp; omega), List.getElem?_set_ne (by omega), List.getElem?_append_left hm]
  · rintro k η S' ⟨dn, q, o4, o5, rfl, hnd, hsm, hlt, hnx, hcl, rfl, hf, hq, hfr⟩
    try array_get_dec
    simp only [eq_nil hq]
    try array_get_dec
    refine ⟨Nat.zero_le _, ?_⟩
    cases q with
    | nil =>
      rw [if_neg (by simp)]
      try array_get_dec
      refine ⟨_, hf, ?_, hlt, hnd, hfr⟩
      have hall : ∀ k v, dp s v = k → v < qs.length + 1 → v ∈ dn ++ [] := by
        intro k
        induction k with
        | zero =>
          intro v hk hv
          rcases Nat.decEq v s with e | e
          · have := T.dpnx s v hs hv e; omega
          · rw [e]; exact hsm
        | succ k ih =>
          intro v hk hv
          rcases Nat.decEq v s with e | e
          · have h1 := T.dpnx s v hs hv e
            have h2 := ih (nx s v) (by omega) (T.nxlt s v hs hv)
            exact hcl (nx s v) (by simpa using h2) v (T.sym _ _ (T.nxadj s v hs hv e))
          · rw [e]; exact hsm
      exact fun v hv => hall _ v rfl hv
    | cons u q' =>
      rw [if_pos (by simp)]
      have hu : u < qs.length + 1 := hlt u (by simp)
      have hl2 := nodup_len (qs.length + 1) (dn ++ u :: q') hnd hlt
      rw [List.length_append, List.length_cons] at hl2
      refine ⟨bmTy_ref hq, _, _, pop_front hq, rowD qs u, by rw [show natD u = D.int u from rfl, ix_list, atI_nat, List.getElem?_map, List.getElem?_range hu]; rfl, _, rfl, ?_⟩
      obtain ⟨sp, _⟩ := srt_spec (row_line (qs := qs) (by omega) u)
      refine for_inv (fun rest η2 S2 => ∃ rs q2 o, rest = rs.map natD ∧ (∀ w ∈ rs, adjOf qs u w) ∧ (dn ++ u :: q2).Nodup ∧ s ∈ dn ++ u :: q2 ∧ (∀ v ∈ dn ++ u :: q2, v < qs.length + 1) ∧ (∀ v ∈ dn ++ u :: q2, v ≠ s → nx s v ∈ dn ++ [u]) ∧ (u ≠ s → nx s u ∈ dn) ∧ (∀ w, adjOf qs u w → w ∈ rs ∨ w ∈ dn ++ u :: q2) ∧ (∀ v ∈ dn, ∀ w, adjOf qs v w → w ∈ dn ++ u :: q2) ∧
        η2 = [some (D.list ((List.range (qs.length + 1)).map (rowD qs))), some (D.int s), some (D.ref S.length), some (D.ref (S.length + 1)), some (D.int u), o] ∧ S2[S.length]? = some (.dK (nkv (fun v => .tup ((pth nx dp s v).map natD)) (dn ++ u :: q2))) ∧ S2[S.length + 1]? = some (.list (q2.map natD)) ∧ Fr [] S S2)
        ⟨srt (rowOf qs u), q', o5, rfl, fun w hw => rowOf_mem.mp (sp.mem_iff.mp hw), hnd, hsm, hlt, fun v hv hne => by have := hnx v hv hne; simp [this], fun hne => hnx u (by simp) hne, fun w hw => .inl (sp.mem_iff.mpr (rowOf_mem.mpr hw)), hcl, rfl, by rw [get_ne (by omega)]; exact hf, get_set hq, hfr.setNew (by omega)⟩ ?_ ?_
      · rintro z ys η2 S2 ⟨rs, q2, o, hr, hadj, hnd2, hs2, hlt2, hnx2, hnu, hcu, hcl2, rfl, hf2, hq2, hfr2⟩
        cases rs with
        | nil => cases hr
        | cons w rs =>
          obtain ⟨rfl, rfl⟩ := List.cons.inj hr
          refine ⟨_, rfl, ?_⟩
          have ha := hadj w (by simp)
          have hwn := (T.lt _ _ ha).2
          try array_get_dec
          simp only [c_nin, nkv_in hf2]
          try array_get_dec
          by_cases hw : w ∈ dn ++ u :: q2
          · rw [if_neg (by rw [decide_eq_true hw]; simp)]
            try array_get_dec
            exact ⟨rs, rfl, fun x hx => hadj x (by simp [hx]), q2, hnd2, hs2, hlt2, hnx2, hnu, fun x hx => by
              rcases hcu x hx with h | h
              · rcases List.mem_cons.mp h with rfl | h
                · exact .inr hw
                · exact .inl h
              · exact .inr h, hcl2, _, rfl, hf2, hq2, hfr2⟩
          · rw [if_pos (by rw [decide_eq_false hw]; rfl)]
            have hne : w ≠ s := fun e => hw (by rw [e]; exact hs2)
            have hnx3 : nx s w = u := by
              rcases T.t1 s u w hs ha with e | e
              · exfalso
                rcases Nat.decEq u s with h | h
                · have h2 := hnu h
                  rw [e] at h2
                  exact hw (by simp [h2])
                · rw [h, T.nxs s hs] at e
                  exact hne e.symm
              · exact e
            have hp : pth nx dp s w = pth nx dp s u ++ [w] := by rw [T.pth_step hs hwn hne, hnx3]
            have hlen : (pth nx dp s u).length ≤ 101 := by
              unfold pth
              rw [pth_len]
              have := T.dplt s u hs hu
              omega
            have hl3 := nodup_len (qs.length + 1) (dn ++ u :: q2) hnd2 hlt2
            have big : ∀ k : Nat, k ≤ 300 → k < line := fun k hk => Nat.lt_of_le_of_lt hk (by decide)
            have eL : dn ++ u :: (q2 ++ [w]) = (dn ++ u :: q2) ++ [w] := by simp
            refine ⟨_, nkv_ix hf2 (by simp), by decide, D.tup ((pth nx dp s w).map natD), ?_, _, _, nkv_set (f := fun v => .tup ((pth nx dp s v).map natD)) hf2 hw (big _ (by omega)), ?_⟩
            · rw [b_tup, if_pos (Nat.le_of_lt (big _ (by simp; omega))), hp, List.map_append]
              rfl
            have g2 : (S2.set S.length (.dK (nkv (fun v => .tup ((pth nx dp s v).map natD)) ((dn ++ u :: q2) ++ [w]))))[S.length + 1]? = some (.list (q2.map natD)) := by
              rw [get_ne (by omega)]; exact hq2
            refine ⟨bmTy_ref g2, _, _, append_ref g2 (big _ (by simp at hl3 ⊢; omega)), rs, rfl, fun x hx => hadj x (by simp [hx]), q2 ++ [w], ?_, ?_, ?_, ?_, hnu, ?_, ?_, _, rfl, ?_, ?_, (hfr2.setNew (by omega)).setNew (by omega)⟩
            · rw [eL]
              exact List.nodup_append.mpr ⟨hnd2, by simp, fun x hx y hy => by
                have : y = w := by simpa using hy
                subst this
                intro z
                exact hw (z ▸ hx)⟩
            · rw [eL]; exact List.mem_append_left _ hs2
            · rw [eL]
              intro v hv
              rcases List.mem_append.mp hv with h | h
              · exact hlt2 v h
              · have : v = w := by simpa using h
                omega
            · rw [eL]
              intro v hv hvs
              rcases List.mem_append.mp hv with h | h
              · exact hnx2 v h hvs
              · have : v = w := by simpa using h
                rw [this, hnx3]
                simp
            · intro x hx
              rw [eL]
              rcases hcu x hx with h | h
              · rcases List.mem_cons.mp h with rfl | h
                · exact .inr (by simp)
                · exact .inl h
              · exact .inr (List.mem_append_left _ h)
            · intro v hv x hx
              rw [eL]
              exact List.mem_append_left _ (hcl2 v hv x hx)
            · rw [get_ne (by omega), eL]
              exact get_set hf2
            · rw [List.map_append]
              exact get_set g2
      · rintro η2 S2 ⟨rs, q2, o, hr, hadj, hnd2, hs2, hlt2, hnx2, hnu, hcu, hcl2, rfl, hf2, hq2, hfr2⟩
        cases rs with
        | cons w rs => cases hr
        | nil =>
          try array_get_dec
          have eL : (dn ++ [u]) ++ q2 = dn ++ u :: q2 := by simp
          refine ⟨_, ?_, dn ++ [u], rfl, q2, ?_, ?_, ?_, ?_, ?_, _, _, rfl, ?_, hq2, hfr2⟩
          · simp; omega
          · rw [eL]; exact hnd2
          · rw [eL]; exact hs2
          · rw [eL]; exact hlt2
          · rw [eL]; exact hnx2
          · rw [eL]
            intro v hv x hx
            rcases List.mem_append.mp hv with h | h
            · exact hcl2 v h x hx
            · have e : v = u := by simpa using h
              subst e
              rcases hcu x hx with h | h
              · cases h
              · exact h
          · rw [eL]; exact hf2
open IsTree in
theorem t_paths (n0 : Nat) (S : Store) (qs : List (Nat × Nat)) {nx dp : Nat → Nat → Nat} (T : IsTree (qs.length + 1) (adjOf qs) nx dp) (hl : qs.length ≤ 100) (s : Nat) (hs : s < qs.length + 1) :
    Ok (callM Tt.T.prog (run Tt.T.prog (n0 + 1)) i__law_paths [.list ((List.range (qs.length + 1)).map (rowD qs)), .int s] [] [] S) (fun r S' => ∃ vs, r = .ref S.length ∧ S'[S.length]? = some (.dK (nkv (fun v => .tup ((pth nx dp s v).map natD)) vs)) ∧ (∀ v, v < qs.length + 1 → v ∈ vs) ∧ Fr [] S S') Mi.nx := by
  exact (t_paths2 n0 S qs T hl s hs).mono fun r S1 ⟨vs, h1, h2, h3, _, _, h5⟩ => ⟨vs, h1, h2, h3, h5⟩
end Mi
set_option Elab.async false
set_option linter.all false
set_option maxRecDepth 100000
namespace Mi
open PySem L2 Tt IsTree
local macro_rules | `(tactic| array_get_dec) => `(tactic| simp only [wipeD, ok_exs, ok_exs0, go_next, go_ret, go_brk, go_cont, ok_sex, ok_ret, ok_set, ok_par, ok_seti, ok_seta, ok_site, ok_for, ok_pass, ok_brk, ok_cont, ok_v, ok_c, ok_g, ok_tup, ok_list, ok_mlist, ok_mdict, ok_mdictT, ok_edict, ok_bin, ok_mulm, ok_addm, ok_rngm, ok_neg, ok_cmp, ok_eqE, ok_cmp2, ok_isN, ok_isB, ok_not, ok_eite, ok_ix, ok_sl, ok_slm, ok_vals, ok_rev, ok_attr, ok_cattr, ok_call, ok_bc, ok_isi, ok_meth, ok_bm, ok_cm, ok_mk, ok_mkv, ok_mkx, ok_cs, ok_cmv, ok_lc2, ok_raise, ok_try, ok_fz, ok_lc, ok_evs0, ok_evs1, ok_evsS, ok_and, ok_or, ok_and1, ok_and2, ok_or1, ok_or2, ok_t0, ok_t1, ok_bind, ok_truth, b_add, b_sub, b_mul, b_fdiv, b_mod, b_pow, b_tup, b_list, ite_some, c_lt, c_le, c_gt, c_ge, c_eq, c_ne, eq_int, eq_str, Option.map_some, ix_list, ix_tup, len_list, len_tup, asg_n, asg_t, asgs_0, asgs_1, List.map_cons, List.map_nil, List.length_cons, List.length_nil, List.replicate_succ, List.replicate_zero, List.cons_append, List.nil_append, List.append_nil, Nat.reduceAdd, Nat.reduceSub, Nat.reduceLT, Nat.zero_add, Nat.lt_add_one, Nat.zero_lt_succ, Nat.succ_pos, List.set_cons_zero, List.set_cons_succ, List.getElem?_cons_zero, List.getElem?_cons_succ, Option.bind_some, Option.some.injEq, D.bool.injEq, D.int.injEq, exists_eq_left', exists_eq_left, exists_eq_right, exists_eq_right', exists_and_left, and_true, true_and, if_true, ne_eq, reduceCtorEq, not_false_eq_true, implies_true, if_pos, partE, exists_const, and_assoc, Prod.mk.injEq, if_false, Int.reduceToNat, Int.reducePow, Nat.reducePow, Int.reduceLT, Int.reduceLE, Int.reduceNeg, Int.reduceAdd, Int.reduceSub, Int.reduceMul, decide_eq_true_eq])
theorem addm_list {S : Store} {n : Nat} {xs ys : List D} (h : S[n]? = some (.list xs)) (hl : xs.length + ys.length ≤ line) : addL S (.ref n) (.list ys) = some (xs ++ ys) := by
  unfold addL listOf
  rw [deref_ref h]
  show (some xs).bind _ = _
  rw [Option.bind_some]
  show (some ys).bind _ = _
  rw [Option.bind_some, if_pos hl]
section
variable {qs : List (Nat × Nat)} {nx dp : Nat → Nat → Nat}
theorem t_lbehind (n0 : Nat) (S : Store) (R : Rail qs nx dp) (hl : qs.length ≤ 100) {m s : Nat} (hm : m < qs.length + 1) (hs : s < qs.length + 1) (h : s ≠ m) :
    Ok (callM Tt.T.prog (run Tt.T.prog (n0 + 2)) i__law_behind [.list ((List.range (qs.length + 1)).map (rowD qs)), .int m, .int s] [] [] S) (fun r S' => r = .list ((behL (qs.length + 1) dp m s).map natD) ∧ Fr [] S S') Mi.nx := by
  have T := R.T
  generalize hd : D.list ((List.range (qs.length + 1)).map (rowD qs)) = dd
  refine ok_fn (fn := f__law_behind) (ds := [dd, .int m, .int s]) rfl rfl ?_
  unfold f__law_behind
  subst hd
  array_get_dec
  refine (t_paths n0 S qs T (by omega) m hm).mono fun r S1 q => ?_
  obtain ⟨vs, rfl, hK, hall, f1⟩ := q
  obtain ⟨wl, hw⟩ := way_head T hs (T.nxlt s m hs hm)
  have e1 : atI ((pth nx dp m s).map natD) 1 = some (natD (nx s m)) := by
    rw [pth_one T hm hs (Ne.symm h), hw, show (1 : Int) = ((1 : Nat) : Int) from rfl, atI_nat]
    rfl
  refine ⟨_, nkv_ix hK (hall s hs), _, by rw [ix_tup]; exact e1, by decide, by decide, ?_⟩
  simp only [le_line, Nat.reduceLeDiff, true_and]
  simp only [ok_while]
  refine while_inv (fun k η S' => ∃ dn q r o6 o7 o8, k = qs.length + 1 - dn.length ∧ (dn ++ q).Nodup ∧ m ∈ dn ++ q ∧ (∀ v ∈ dn ++ q, v < qs.length + 1 ∧ (v = m ∨ nx s m ≠ nx v m)) ∧ (∀ u ∈ dn, ∀ w, adjOf qs u w → (u ≠ m ∨ w ≠ nx s m) → w ∈ dn ++ q) ∧
    S.length ≤ r ∧ η = [some (D.list ((List.range (qs.length + 1)).map (rowD qs))), some (D.int m), some (D.int s), some (natD (nx s m)), some (D.list ((dn ++ q).map natD)), some (D.ref r), o6, o7, o8] ∧ S'[r]? = some (.list (q.map natD)) ∧ Fr [] S S')
    (k := qs.length + 1) (by omega) ⟨[], [m], S1.length, none, none, none, by simp, by simp, by simp, fun v hv => by have e : v = m := (by simpa using hv); subst e; exact ⟨hm, .inl rfl⟩, by simp, f1.1, rfl, get_new, f1.trans (Fr.app _ _ _)⟩ ?_
  rintro k η S' ⟨dn, q, r, o6, o7, o8, rfl, hnd, hmm, hlt, hcl, hr, rfl, hq, hfr⟩
  try array_get_dec
  simp only [eq_nil hq]
  try array_get_dec
  refine ⟨Nat.zero_le _, ?_⟩
  cases q with
  | nil =>
    rw [if_neg (by simp)]
    try array_get_dec
    rw [List.append_nil] at hnd hmm hlt hcl
    have hlen := nodup_len (qs.length + 1) dn hnd fun v hv => (hlt v hv).1
    obtain ⟨s1, s2⟩ := srt_spec (l := dn) (Nat.le_trans hlen (Nat.le_trans (show _ ≤ 200 by omega) (by decide)))
    have e2 : srt dn = behL (qs.length + 1) dp m s := by
      refine srt_eq ?_ ((behL_asc _ _ _ _).imp fun h => Nat.le_of_lt h)
      refine (List.perm_ext_iff_of_nodup ((behL_asc _ _ _ _).imp fun h => Nat.ne_of_lt h) hnd).mpr fun v => ?_
      rw [behL_mem T hm hs h]
      refine ⟨fun hv => ?_, fun hv => hlt v hv⟩
      exact T.behind_all hm hs h hmm hcl _ v rfl hv.1 hv.2
    refine ⟨_, ?_, rfl, hfr⟩
    show ((listOf S' (.list (dn.map natD))).bind (sortedD false)).map D.list = _
    show (sortedD false (dn.map natD)).map D.list = _
    rw [s2, e2]
    rfl
  | cons u q' =>
    rw [if_pos (by simp)]
    obtain ⟨hu, hub⟩ := hlt u (by simp)
    have hlen := nodup_len (qs.length + 1) (dn ++ u :: q') hnd fun v hv => (hlt v hv).1
    rw [List.length_append, List.length_cons] at hlen
    refine ⟨bmTy_ref hq, _, _, pop_front hq, rowD qs u, by rw [show natD u = D.int u from rfl, ix_list, tabs_at hu], _, rfl, ?_⟩
    have hp := srt_perm (rowOf qs u)
    have hpn : (srt (rowOf qs u)).Nodup := hp.nodup_iff.mpr (R.rn u)
    refine lc_filF natD natD (fun w => decide (w ∉ dn ++ u :: q') && (decide (u ≠ m) || decide (w ≠ nx s m))) (by rw [hp.length_eq]; exact row_line (by omega) u) (fun w hw S5 f5 _ => ?_) fun S5 f5 => ?_
    · rw [ok_lcT]
      refine ⟨_, rfl, ?_⟩
      try array_get_dec
      simp only [c_nin, in_list]
      try array_get_dec
      by_cases h1 : w ∈ dn ++ u :: q'
      · simp only [h1]
        simp
        exact Fr.refl _ _
      · simp only [h1]
        by_cases h2 : u = m
        · by_cases h3 : w = nx s m
          · simp [h2, h3]
            exact Fr.refl _ _
          · simp [h2, h3]
            exact ⟨by omega, Fr.refl _ _⟩
        · simp [h2]
          rw [if_neg (by omega)]
          exact Fr.refl _ _
    · generalize hms : (srt (rowOf qs u)).filter (fun w => decide (w ∉ dn ++ u :: q') && (decide (u ≠ m) || decide (w ≠ nx s m))) = ms
      have mem : ∀ w, w ∈ ms ↔ adjOf qs u w ∧ w ∉ dn ++ u :: q' ∧ (u ≠ m ∨ w ≠ nx s m) := fun w => by
        rw [← hms, List.mem_filter, hp.mem_iff, rowOf_mem]
        simp
      have mnd : ms.Nodup := by rw [← hms]; exact List.Nodup.sublist List.filter_sublist hpn
      try array_get_dec
      have big : ∀ k : Nat, k ≤ 10000 → k ≤ line := fun k hk => Nat.le_trans hk (by decide)
      have eL : (dn ++ [u]) ++ (q' ++ ms) = (dn ++ u :: q') ++ ms := by simp
      have hnd2 : ((dn ++ u :: q') ++ ms).Nodup := List.nodup_append.mpr ⟨hnd, mnd, fun x hx y hy z => ((mem y).mp hy).2.1 (z ▸ hx)⟩
      have hlt2 : ∀ v ∈ (dn ++ u :: q') ++ ms, v < qs.length + 1 ∧ (v = m ∨ nx s m ≠ nx v m) := fun v hv => by
        rcases List.mem_append.mp hv with q | q
        · exact hlt v q
        · obtain ⟨h1, h2, h3⟩ := (mem v).mp q
          refine ⟨(T.lt _ _ h1).2, ?_⟩
          rcases Nat.decEq v m with e | e
          · refine .inr ?_
            rcases hub with e2 | e2
            · subst e2
              rw [T.nx_adj (T.sym _ _ h1)]
              rcases h3 with h3 | h3
              · exact absurd rfl h3
              · exact Ne.symm h3
            · rcases Nat.decEq u m with e3 | e3
              · rw [← T.same_side hm h1 e3 e]; exact e2
              · subst e3
                rw [T.nx_adj (T.sym _ _ h1)]
                rcases h3 with h3 | h3
                · exact absurd rfl h3
                · exact Ne.symm h3
          · exact .inl e
      have hlen2 := nodup_len (qs.length + 1) _ hnd2 fun v hv => (hlt2 v hv).1
      simp only [List.length_append, List.length_cons] at hlen2
      have hq5 := f5.get (get_set (c' := .list (q'.map natD)) hq) (by simp)
      have f6 : Fr [] S S5 := (hfr.setNew hr).trans f5
      refine ⟨big _ (by simp; omega), _, addm_list hq5 (big _ (by simp; omega)), by decide, _, ?_, dn ++ [u], rfl, q' ++ ms, ?_, ?_, ?_, ?_, S5.length, f6.1, _, _, _, by rw [eL, List.map_append (l₁ := dn ++ u :: q')], by rw [List.map_append]; exact get_new, f6.trans (Fr.app _ _ _)⟩
      · simp; omega
      · rw [eL]; exact hnd2
      · rw [eL]; exact List.mem_append_left _ hmm
      · rw [eL]; exact hlt2
      · rw [eL]
        intro v hv w hw hc
        rcases List.mem_append.mp hv with q | q
        · exact List.mem_append_left _ (hcl v q w hw hc)
        · have e : v = u := by simpa using q
          subst e
          by_cases hin : w ∈ dn ++ v :: q'
          · exact List.mem_append_left _ hin
          · exact List.mem_append_right _ ((mem w).mpr ⟨hw, hin, hc⟩)
end
end Mi
set_option Elab.async false
set_option linter.all false
set_option maxRecDepth 100000
namespace Mi
open PySem L2 Tt IsTree
local macro_rules | `(tactic| array_get_dec) => `(tactic| simp only [wipeD, ok_exs, ok_exs0, go_next, go_ret, go_brk, go_cont, ok_sex, ok_ret, ok_set, ok_par, ok_seti, ok_seta, ok_site, ok_for, ok_pass, ok_brk, ok_cont, ok_v, ok_c, ok_g, ok_tup, ok_list, ok_mlist, ok_mdict, ok_mdictT, ok_edict, ok_bin, ok_mulm, ok_addm, ok_rngm, ok_neg, ok_cmp, ok_eqE, ok_cmp2, ok_isN, ok_isB, ok_not, ok_eite, ok_ix, ok_sl, ok_slm, ok_vals, ok_rev, ok_attr, ok_cattr, ok_call, ok_bc, ok_isi, ok_meth, ok_bm, ok_cm, ok_mk, ok_mkv, ok_mkx, ok_cs, ok_cmv, ok_lc2, ok_raise, ok_try, ok_fz, ok_lc, ok_evs0, ok_evs1, ok_evsS, ok_and, ok_or, ok_and1, ok_and2, ok_or1, ok_or2, ok_t0, ok_t1, ok_bind, ok_truth, b_add, b_sub, b_mul, b_fdiv, b_mod, b_pow, b_tup, b_list, ite_some, c_lt, c_le, c_gt, c_ge, c_eq, c_ne, eq_int, eq_str, Option.map_some, ix_list, ix_tup, len_list, len_tup, asg_n, asg_t, asgs_0, asgs_1, List.map_cons, List.map_nil, List.length_cons, List.length_nil, List.replicate_succ, List.replicate_zero, List.cons_append, List.nil_append, List.append_nil, Nat.reduceAdd, Nat.reduceSub, Nat.reduceLT, Nat.zero_add, Nat.lt_add_one, Nat.zero_lt_succ, Nat.succ_pos, List.set_cons_zero, List.set_cons_succ, List.getElem?_cons_zero, List.getElem?_cons_succ, Option.bind_some, Option.some.injEq, D.bool.injEq, D.int.injEq, exists_eq_left', exists_eq_left, exists_eq_right, exists_eq_right', exists_and_left, and_true, true_and, if_true, ne_eq, reduceCtorEq, not_false_eq_true, implies_true, if_pos, partE, exists_const, and_assoc, Prod.mk.injEq, if_false, Int.reduceToNat, Int.reducePow, Nat.reducePow, Int.reduceLT, Int.reduceLE, Int.reduceNeg, Int.reduceAdd, Int.reduceSub, Int.reduceMul, decide_eq_true_eq])
section
variable {n : Nat} {adj : Nat → Nat → Prop} {nx dp : Nat → Nat → Nat} {m s : Nat}
end
section
variable {qs : List (Nat × Nat)} {nx dp : Nat → Nat → Nat}
theorem t_ldepth (n0 : Nat) (S : Store) (R : Rail qs nx dp) (hl : qs.length ≤ 100) {m s : Nat} (hm : m < qs.length + 1) (hs : s < qs.length + 1) (h : s ≠ m) :
    Ok (callM Tt.T.prog (run Tt.T.prog (n0 + 3)) i__law_depth [.list ((List.range (qs.length + 1)).map (rowD qs)), .int m, .int s] [] [] S) (fun r S' => r = .int (dpth (qs.length + 1) dp m s) ∧ Fr [] S S') Mi.nx := by
  have T := R.T
  generalize hd : D.list ((List.range (qs.length + 1)).map (rowD qs)) = dd
  refine ok_fn (fn := f__law_depth) (ds := [dd, .int m, .int s]) rfl rfl ?_
  unfold f__law_depth
  subst hd
  array_get_dec
  refine (t_paths (n0 + 1) S qs T (by omega) m hm).mono fun r S1 q => ?_
  obtain ⟨vs, rfl, hK, hall, f1⟩ := q
  refine ok_fr (t_lbehind n0 S1 R hl hm hs h) fun S2 f2 => ?_
  refine ⟨_, rfl, ?_⟩
  refine lc_mapF natD (fun v => natD (dp m v)) (Nat.le_trans (behL_len _ _ _ _) (Nat.le_trans (show _ ≤ 300 by omega) (by decide))) (fun v hv S5 f5 _ => ?_) fun S5 f5 => ?_
  · have hv : v < qs.length + 1 := List.mem_range.mp (List.mem_filter.mp hv).1
    rw [ok_lcT]
    refine ⟨_, rfl, ?_⟩
    array_get_dec
    refine ⟨_, nkv_ix ((f2.trans f5).get hK (by simp)) (hall v hv), _, rfl, _, rfl, ?_, Fr.refl _ _⟩
    rw [List.length_map, pth_len]
    simp
  · have hne : (behL (qs.length + 1) dp m s).map (dp m) ≠ [] := fun z => by
      have := behL_self T (s := s) hm
      rw [List.map_eq_nil_iff.mp z] at this
      simp at this
    have e := max1_nat (S := S5) hne
    rw [List.map_map] at e
    exact ⟨_, e, rfl, (f1.trans f2).trans f5⟩
theorem gds_pairs {l : List (Nat × Nat)} {w : Nat} (h : ∀ p ∈ l, p.1 < 10 ^ 12 ∧ p.2 < 10 ^ 12) (hw : 100 * l.length ≤ w) : gds w (l.map pairD) := by
  refine gds_all (w := 90) (fun x hx => ?_) (by rw [List.length_map]; omega)
  obtain ⟨p, hp, rfl⟩ := List.mem_map.mp hx
  have e : pairD p = .tup ([p.1, p.2].map fun i : Nat => D.int i) := rfl
  rw [e]
  exact gd_nats (fun v hv => by have := h p hp; simp at hv; omega) (by simp)
theorem pyds_pairs : ∀ l : List (Nat × Nat), pyds (l.map pairD) = some (l.map fun p => PyData.tuple [.int p.1, .int p.2])
  | [] => by unfold pyds; rfl
  | p :: l => by
    rw [List.map_cons]
    unfold pyds
    rw [pyds_pairs l]
    have e : pyd (pairD p) = some (.tuple [.int p.1, .int p.2]) := by
      have := pyds_nat [p.1, p.2]
      unfold pairD pyd
      rw [show ([D.int (p.1 : Int), D.int p.2] : List D) = [p.1, p.2].map (fun i : Nat => D.int i) from rfl, this]
      rfl
    rw [e]
    rfl
theorem depth_pairs : ∀ l : List (Nat × Nat), PyData.depthAll (l.map fun p => PyData.tuple [.int p.1, .int p.2]) ≤ 1
  | [] => Nat.zero_le _
  | p :: l => by
    rw [List.map_cons]
    unfold PyData.depthAll
    have := depth_pairs l
    have e : PyData.depth (.tuple [.int p.1, .int p.2]) = 1 := rfl
    omega
theorem gd_pairs {l : List (Nat × Nat)} {w : Nat} (h : ∀ p ∈ l, p.1 < 10 ^ 12 ∧ p.2 < 10 ^ 12) (hw : 100 * l.length ≤ w) : gd w (.tup (l.map pairD)) :=
  gd_tup (gds_pairs h hw) ⟨_, pyds_pairs l, Nat.le_trans (depth_pairs l) (by decide)⟩
theorem repr_eq_step {S : Store} {xs : List D} {w : Nat} {K : D → Prop} (h : gds w xs) (hw : w ≤ 2 ^ 20) (k : K (.bool true)) : 2 ≤ line ∧ ∃ d, bfn .repr S [.list xs] = some d ∧ 2 ≤ line ∧ ∃ d_1, bfn .repr S [.list xs] = some d_1 ∧ ∃ d_2, Option.map D.bool (eqOp S d d_1) = some d_2 ∧ K d_2 := by
  obtain ⟨r1, r2⟩ := repr_shw (S := S) h hw
  exact ⟨by decide, _, r1, by decide, _, r1, _, by rw [r2]; rfl, k⟩
theorem brs_len (m : Nat) : (brs qs dp m).length ≤ 2 * qs.length := by
  unfold brs
  rw [List.length_map, (srt_perm _).length_eq]
  exact rowOf_len qs m
end
end Mi
set_option Elab.async false
set_option linter.all false
set_option maxRecDepth 100000
namespace Mi
open PySem L2 Tt IsTree
local macro_rules | `(tactic| array_get_dec) => `(tactic| simp only [wipeD, ok_exs, ok_exs0, go_next, go_ret, go_brk, go_cont, ok_sex, ok_ret, ok_set, ok_par, ok_seti, ok_seta, ok_site, ok_for, ok_pass, ok_brk, ok_cont, ok_v, ok_c, ok_g, ok_tup, ok_list, ok_mlist, ok_mdict, ok_mdictT, ok_edict, ok_bin, ok_mulm, ok_addm, ok_rngm, ok_neg, ok_cmp, ok_eqE, ok_cmp2, ok_isN, ok_isB, ok_not, ok_eite, ok_ix, ok_sl, ok_slm, ok_vals, ok_rev, ok_attr, ok_cattr, ok_call, ok_bc, ok_isi, ok_meth, ok_bm, ok_cm, ok_mk, ok_mkv, ok_mkx, ok_cs, ok_cmv, ok_lc2, ok_raise, ok_try, ok_fz, ok_lc, ok_evs0, ok_evs1, ok_evsS, ok_and, ok_or, ok_and1, ok_and2, ok_or1, ok_or2, ok_t0, ok_t1, ok_bind, ok_truth, b_add, b_sub, b_mul, b_fdiv, b_mod, b_pow, b_tup, b_list, ite_some, c_lt, c_le, c_gt, c_ge, c_eq, c_ne, eq_int, eq_str, Option.map_some, ix_list, ix_tup, len_list, len_tup, asg_n, asg_t, asgs_0, asgs_1, List.map_cons, List.map_nil, List.length_cons, List.length_nil, List.replicate_succ, List.replicate_zero, List.cons_append, List.nil_append, List.append_nil, Nat.reduceAdd, Nat.reduceSub, Nat.reduceLT, Nat.zero_add, Nat.lt_add_one, Nat.zero_lt_succ, Nat.succ_pos, List.set_cons_zero, List.set_cons_succ, List.getElem?_cons_zero, List.getElem?_cons_succ, Option.bind_some, Option.some.injEq, D.bool.injEq, D.int.injEq, exists_eq_left', exists_eq_left, exists_eq_right, exists_eq_right', exists_and_left, and_true, true_and, if_true, ne_eq, reduceCtorEq, not_false_eq_true, implies_true, if_pos, partE, exists_const, and_assoc, Prod.mk.injEq, if_false, Int.reduceToNat, Int.reducePow, Nat.reducePow, Int.reduceLT, Int.reduceLE, Int.reduceNeg, Int.reduceAdd, Int.reduceSub, Int.reduceMul, decide_eq_true_eq])
section
variable {qs : List (Nat × Nat)} {nx dp : Nat → Nat → Nat}
/-- the rows of neighbours, as the law has them -/
noncomputable def arD (qs : List (Nat × Nat)) : D := .list ((List.range (qs.length + 1)).map (rowD qs))
theorem ar_ix {S : Store} {m : Nat} (h : m < qs.length + 1) : ixop S (arD qs) (.int m) = some (rowD qs m) := by
  unfold arD
  rw [ix_list, atI_nat, List.getElem?_map, List.getElem?_range h]
  rfl
theorem ar_len {S : Store} : bfn .len S [arD qs] = some (.int ((qs.length + 1 : Nat) : Int)) := by
  unfold arD
  rw [len_list]
  simp
theorem max_list {S : Store} {l : List Nat} {M : Nat} (h1 : M ∈ l) (h2 : ∀ x ∈ l, x ≤ M) : bfn .max1 S [.list (l.map natD)] = some (.int M) := by
  have hne : l ≠ [] := fun z => by rw [z] at h1; cases h1
  rw [max1_nat hne]
  have e : mxs l = M := by
    have a1 : mxs l ≤ M := mxs_le l 0 M (Nat.zero_le _) h2
    have a2 : M ≤ mxs l := mxs_ge l 0 M (.inl h1)
    omega
  rw [e]
theorem kill_of {S : Store} {n : Nat} {kvs : List (Key × D)} (h : S[n]? = some (.dK kvs)) (hne : kvs ≠ []) : killD (.ref n) S = some (.dict (kvs.map (·.1)) (kvs.map (·.2)), S.set n .dead) := by
  cases kvs with
  | nil => exact absurd rfl hne
  | cons kv kvs =>
    unfold killD
    simp only [h]
theorem t_widest (n0 : Nat) {S : Store} (R : Rail qs nx dp) (hl : qs.length ≤ 99) {M : Nat} (h1 : ∃ s v, s < qs.length + 1 ∧ v < qs.length + 1 ∧ dp s v = M) (h2 : ∀ s v, s < qs.length + 1 → v < qs.length + 1 → dp s v ≤ M) :
    Ok (callM Tt.T.prog (run Tt.T.prog (n0 + 2)) i__law_widest [arD qs] [] [] S) (fun r S' => r = .int M ∧ Fr [] S S') Mi.nx := by
  have T := R.T
  generalize hd : arD qs = dd
  refine ok_fn (fn := f__law_widest) (ds := [dd]) rfl rfl ?_
  unfold f__law_widest
  array_get_dec
  subst hd
  refine ⟨_, ar_len, _, rng1_items (by omega) (by omega), ?_⟩
  rw [range0]
  have hecc := fun s (hs : s < qs.length + 1) => ecc_spec (n := qs.length + 1) (f := dp s) (by omega)
  refine lc_mapF (fun i : Nat => D.int i) (fun s => natD (eccF (qs.length + 1) (dp s))) (by rw [List.length_range, show line = 16777216 from PySem.sizeLine_eq]; omega) (fun s hs S' f hlt => ?_) fun S' f => ?_
  · have hs := List.mem_range.mp hs
    rw [ok_lcT]
    refine ⟨_, rfl, ?_⟩
    array_get_dec
    refine (t_paths2 n0 S' qs T (by omega) s hs).mono fun r S2 q => ?_
    obtain ⟨vs, rfl, hc, hv1, hv2, hnd, f2⟩ := q
    have hvl := nodup_len (qs.length + 1) vs hnd hv2
    have e1 : (nkv (fun v => D.tup ((pth nx dp s v).map natD)) vs).map (·.2) = vs.map fun v => D.tup ((pth nx dp s v).map natD) := by
      unfold nkv
      rw [List.map_map]
      rfl
    refine ⟨_, _, kill_of hc (fun z => ?_), _, rfl, ?_⟩
    · have := hv1 s hs
      unfold nkv at z
      rw [List.map_eq_nil_iff.mp z] at this
      cases this
    rw [e1]
    refine lc_mapF (fun v => D.tup ((pth nx dp s v).map natD)) (fun v => natD (dp s v)) (by rw [show line = 16777216 from PySem.sizeLine_eq]; omega) (fun v hv S3 f3 hlt3 => ?_) fun S3 f3 => ?_
    · rw [ok_lcT]
      refine ⟨_, rfl, ?_⟩
      array_get_dec
      refine ⟨?_, Fr.refl _ _⟩
      rw [List.length_map]
      unfold pth
      rw [pth_len]
      omega
    · obtain ⟨_, ⟨v, hv, e2⟩, e3⟩ := hecc s hs
      have := max_list (S := S3) (l := vs.map (dp s)) (M := eccF (qs.length + 1) (dp s)) (List.mem_map.mpr ⟨v, hv1 v hv, e2⟩) (fun x hx => by
        obtain ⟨w, hw, rfl⟩ := List.mem_map.mp hx
        exact e3 w (hv2 w hw))
      rw [List.map_map] at this
      exact ⟨_, this, rfl, (f2.setNew (Nat.le_refl _)).trans f3⟩
  · obtain ⟨s, v, hs, hv, e⟩ := h1
    have := max_list (S := S') (l := (List.range (qs.length + 1)).map fun s => eccF (qs.length + 1) (dp s)) (M := M) ?_ ?_
    · rw [List.map_map] at this
      exact ⟨_, this, rfl, f⟩
    · obtain ⟨_, ⟨w, hw, e2⟩, e3⟩ := hecc s hs
      have a1 := e3 v hv
      have a2 := h2 s w hs hw
      exact List.mem_map.mpr ⟨s, List.mem_range.mpr hs, by omega⟩
    · intro x hx
      obtain ⟨w, hw, rfl⟩ := List.mem_map.mp hx
      obtain ⟨_, ⟨u, hu, e2⟩, _⟩ := hecc w (List.mem_range.mp hw)
      have a2 := h2 w u (List.mem_range.mp hw) hu
      show eccF (qs.length + 1) (dp w) ≤ M
      omega
/-- the law's depths of all branches -/
noncomputable def dpD (qs : List (Nat × Nat)) (dp : Nat → Nat → Nat) : D := .list ((List.range (qs.length + 1)).map fun m => .list ((brs qs dp m).map pairD))
theorem t_depths (n0 : Nat) {S : Store} (R : Rail qs nx dp) (hl : qs.length ≤ 99) :
    Ok (callM Tt.T.prog (run Tt.T.prog (n0 + 4)) i__law_depths [arD qs] [] [] S) (fun r S' => r = dpD qs dp ∧ Fr [] S S') Mi.nx := by
  have T := R.T
  generalize hd : arD qs = dd
  refine ok_fn (fn := f__law_depths) (ds := [dd]) rfl rfl ?_
  unfold f__law_depths
  array_get_dec
  subst hd
  refine ⟨Nat.zero_le _, _, ar_len, _, rng1_items (by omega) (by omega), ?_⟩
  rw [range0]
  refine for_inv (fun rest η S' => ∃ (j : Nat) (o2 o3 : Option D), j ≤ qs.length + 1 ∧ rest = (List.range' j (qs.length + 1 - j)).map (fun i : Nat => D.int i) ∧ η = [some (arD qs), some (.ref S.length), o2, o3] ∧ S'[S.length]? = some (.list ((List.range j).map fun m => .list ((brs qs dp m).map pairD))) ∧ Fr [] S S')
    ⟨0, none, none, Nat.zero_le _, by rw [Nat.sub_zero, List.range_eq_range'], rfl, get_new, Fr.app _ _ _⟩ ?_ ?_
  · rintro x ys η S4 ⟨j, o2, o3, hj, hr, rfl, hc, f4⟩
    have hlt : j < qs.length + 1 := by
      rcases Nat.lt_or_ge j (qs.length + 1) with q | q
      · exact q
      · rw [show qs.length + 1 - j = 0 by omega] at hr; cases hr
    rw [show qs.length + 1 - j = (qs.length + 1 - (j + 1)) + 1 by omega, List.range'_succ, List.map_cons] at hr
    obtain ⟨rfl, rfl⟩ := List.cons.inj hr
    refine ⟨_, rfl, ?_⟩
    try array_get_dec
    refine ⟨bmTy_ref hc, _, ar_ix hlt, _, rfl, ?_⟩
    refine lc_mapF natD (fun o => pairD (o, 1 + dpth (qs.length + 1) dp o j)) (by have := row_short (qs := qs) (by omega) j; rw [show line = 16777216 from PySem.sizeLine_eq]; omega) (fun o ho S5 f5 hlt5 => ?_) fun S5 f5 => ?_
    · rw [ok_lcT]
      refine ⟨_, rfl, ?_⟩
      array_get_dec
      have ha := (row_nb (qs := qs) (by omega)).mp ho
      obtain ⟨hm, hom⟩ := T.lt _ _ ha
      have tl := t_ldepth n0 S5 R (by omega) (m := o) (s := j) hom hm (fun e => T.irr _ _ ha e)
      refine ok_fr tl fun S6 f6 => ?_
      refine ⟨_, rfl, by rw [show line = 16777216 from PySem.sizeLine_eq]; decide, ?_, f6⟩
      unfold pairD
      congr 3
    · have hc5 := f5.get hc (by simp)
      refine ⟨_, _, append_ref hc5 (by rw [List.length_map, List.length_range, show line = 16777216 from PySem.sizeLine_eq]; omega), j + 1, by omega, rfl, _, _, rfl, ?_, (f4.trans f5).setNew (Nat.le_refl _)⟩
      rw [get_set hc5, List.range_succ, List.map_append]
      unfold brs
      rw [List.map_singleton, List.map_map]
      rfl
  · rintro η S4 ⟨j, o2, o3, hj, hr, rfl, hc, f4⟩
    have hjn : j = qs.length + 1 := by
      have := congrArg List.length hr
      simp at this
      omega
    subst hjn
    try array_get_dec
    exact ⟨_, _, freeze_ref hc, rfl, f4.setNew (Nat.le_refl _)⟩
end
end Mi
set_option Elab.async false
set_option linter.all false
set_option maxRecDepth 100000
namespace Mi
open PySem L2 Tt IsTree
local macro_rules | `(tactic| array_get_dec) => `(tactic| simp only [wipeD, ok_exs, ok_exs0, go_next, go_ret, go_brk, go_cont, ok_sex, ok_ret, ok_set, ok_par, ok_seti, ok_seta, ok_site, ok_for, ok_pass, ok_brk, ok_cont, ok_v, ok_c, ok_g, ok_tup, ok_list, ok_mlist, ok_mdict, ok_mdictT, ok_edict, ok_bin, ok_mulm, ok_addm, ok_rngm, ok_neg, ok_cmp, ok_eqE, ok_cmp2, ok_isN, ok_isB, ok_not, ok_eite, ok_ix, ok_sl, ok_slm, ok_vals, ok_rev, ok_attr, ok_cattr, ok_call, ok_bc, ok_isi, ok_meth, ok_bm, ok_cm, ok_mk, ok_mkv, ok_mkx, ok_cs, ok_cmv, ok_lc2, ok_raise, ok_try, ok_fz, ok_lc, ok_evs0, ok_evs1, ok_evsS, ok_and, ok_or, ok_and1, ok_and2, ok_or1, ok_or2, ok_t0, ok_t1, ok_bind, ok_truth, b_add, b_sub, b_mul, b_fdiv, b_mod, b_pow, b_tup, b_list, ite_some, c_lt, c_le, c_gt, c_ge, c_eq, c_ne, eq_int, eq_str, Option.map_some, ix_list, ix_tup, len_list, len_tup, asg_n, asg_t, asgs_0, asgs_1, List.map_cons, List.map_nil, List.length_cons, List.length_nil, List.replicate_succ, List.replicate_zero, List.cons_append, List.nil_append, List.append_nil, Nat.reduceAdd, Nat.reduceSub, Nat.reduceLT, Nat.zero_add, Nat.lt_add_one, Nat.zero_lt_succ, Nat.succ_pos, List.set_cons_zero, List.set_cons_succ, List.getElem?_cons_zero, List.getElem?_cons_succ, Option.bind_some, Option.some.injEq, D.bool.injEq, D.int.injEq, exists_eq_left', exists_eq_left, exists_eq_right, exists_eq_right', exists_and_left, and_true, true_and, if_true, ne_eq, reduceCtorEq, not_false_eq_true, implies_true, if_pos, partE, exists_const, and_assoc, Prod.mk.injEq, if_false, Int.reduceToNat, Int.reducePow, Nat.reducePow, Int.reduceLT, Int.reduceLE, Int.reduceNeg, Int.reduceAdd, Int.reduceSub, Int.reduceMul, decide_eq_true_eq])
section
variable {n : Nat} {adj : Nat → Nat → Prop} {nx dp : Nat → Nat → Nat}
theorem span_len (T : IsTree n adj nx dp) {l : List Nat} (hlt : ∀ x ∈ l, x < n) (hc : ∀ s ∈ l, ∀ x ∈ l, x ≠ s → nx s x ∈ l) {s x : Nat} (hs : s ∈ l) (hx : x ∈ l) : dp s x + 1 ≤ l.length := by
  have h1 := hlt s hs
  have h2 := hlt x hx
  have key : ∀ i, i ≤ dp s x → stp nx s x i ∈ l := by
    intro i
    induction i with
    | zero => intro _; exact hx
    | succ i ih =>
      intro hi
      have a := ih (by omega)
      refine hc s hs _ a fun e => ?_
      have := stp_dp T h1 h2 i (by omega)
      rw [e, T.dps s h1] at this
      omega
  have hn : ((List.range (dp s x + 1)).map (stp nx s x)).Nodup := by
    unfold List.Nodup
    rw [List.pairwise_map]
    refine List.nodup_range.imp_of_mem fun {i j} hi hj h z => h ?_
    have hi := List.mem_range.mp hi
    have hj := List.mem_range.mp hj
    exact stp_inj T h1 h2 (by omega) (by omega) z
  have := sub_len (m := l) hn fun y hy => by
    obtain ⟨i, hi, rfl⟩ := List.mem_map.mp hy
    exact key i (by have := List.mem_range.mp hi; omega)
  rwa [List.length_map, List.length_range] at this
end
section
variable {qs : List (Nat × Nat)} {nx dp : Nat → Nat → Nat}
theorem t_joined (n0 : Nat) {S : Store} (R : Rail qs nx dp) (hl : qs.length ≤ 99) {l : List Nat} (hnd : l.Nodup) (hlt : ∀ x ∈ l, x < qs.length + 1) (hc : ∀ s ∈ l, ∀ x ∈ l, x ≠ s → nx s x ∈ l) :
    Ok (callM Tt.T.prog (run Tt.T.prog (n0 + 1)) i__law_is_joined [arD qs, .list (l.map natD)] [] [] S) (fun r S' => r = .bool true ∧ Fr [] S S') Mi.nx := by
  have T := R.T
  generalize hd : arD qs = dd
  refine ok_fn (fn := f__law_is_joined) (ds := [dd, .list (l.map natD)]) rfl rfl ?_
  unfold f__law_is_joined
  array_get_dec
  subst hd
  have hsl : ∀ S, slL S (.list (l.map natD)) none (some 1) = some ((l.take 1).map natD) := fun S => by
    show some (cutD _ _ _) = _
    rw [show (1 : Int) = ((1 : Nat) : Int) from rfl]
    have e : cutD (l.map natD) none (some ((1 : Nat) : Int)) = (l.map natD).take 1 := by
      unfold cutD
      rw [HT.sIx_nat, HT.sIx_none]
      rcases Nat.lt_or_ge (l.map natD).length 1 with q | q
      · have : (l.map natD).length = 0 := by omega
        rw [List.length_eq_zero_iff.mp this]
        rfl
      · rw [Nat.min_eq_left q]
        rfl
    rw [e, ← List.map_take]
  refine ⟨_, hsl S, _, rfl, ?_⟩
  have hll := nodup_len (qs.length + 1) l hnd hlt
  cases hle : l with
  | nil =>
    refine for_inv (fun rest η S' => rest = [] ∧ η = [some (arD qs), some (.list (([] : List Nat).map natD)), some (.ref S.length), none, none, none] ∧ S'[S.length]? = some (.list []) ∧ Fr [] S S') ⟨rfl, rfl, get_new, Fr.app _ _ _⟩ ?_ ?_
    · rintro x ys η S4 ⟨hr, _⟩
      cases hr
    · rintro η S4 ⟨_, rfl, hf, f4⟩
      try array_get_dec
      refine ⟨_, len_ref hf, .bool true, ?_, rfl, f4⟩
      rw [eq_int]
      rfl
  | cons s l' =>
    have hs : s ∈ l := by rw [hle]; simp
    rw [← hle]
    have ht1 : (l.take 1) = [s] := by rw [hle]; rfl
    rw [ht1]
    refine for_inv (fun rest η S' => ∃ (t : Nat) (f : List Nat) (o3 o4 o5 : Option D), rest.length + t = l.length ∧ η = [some (arD qs), some (.list (l.map natD)), some (.ref S.length), o3, o4, o5] ∧ S'[S.length]? = some (.list (f.map natD)) ∧ f.Nodup ∧ (∀ x ∈ f, x ∈ l) ∧ (∀ x ∈ l, dp s x ≤ t → x ∈ f) ∧ Fr [] S S')
      ⟨0, [s], none, none, none, by simp, rfl, get_new, by simp, by simp [hs], fun x hx h => ?_, Fr.app _ _ _⟩ ?_ ?_
    · have := (T.dp0 (hlt s hs) (hlt x hx)).mp (by omega)
      simp [this]
    · rintro z ys η S4 ⟨t, f, o3, o4, o5, hk, rfl, hf, hfn, hfl, hft, f4⟩
      simp only [List.length_cons] at hk
      refine ⟨_, rfl, ?_⟩
      try array_get_dec
      refine ⟨_, rfl, ?_⟩
      generalize hz : some z = oz
      refine for_inv (fun rest η S' => ∃ (pre l2 g : List Nat) (o4 o5 : Option D), l = pre ++ l2 ∧ rest = l2.map natD ∧ η = [some (arD qs), some (.list (l.map natD)), some (.ref S.length), oz, o4, o5] ∧ S'[S.length]? = some (.list (g.map natD)) ∧ g.Nodup ∧ (∀ x ∈ g, x ∈ l) ∧ (∀ x ∈ f, x ∈ g) ∧ (∀ x ∈ pre, dp s x ≤ t + 1 → x ∈ g) ∧ Fr [] S S')
        ⟨[], l, f, o4, o5, rfl, rfl, rfl, hf, hfn, hfl, fun x h => h, fun x h => by simp at h, f4⟩ ?_ ?_
      · rintro z zs η S5 ⟨pre, l2, g, o4, o5, hpl, hr, rfl, hg, hgn, hgl, hfg, hgt, f5⟩
        cases l2 with
        | nil => cases hr
        | cons x l2 =>
          rw [List.map_cons] at hr
          obtain ⟨rfl, rfl⟩ := List.cons.inj hr
          have hx : x ∈ l := by rw [hpl]; simp
          have hxn := hlt x hx
          have hgll := nodup_len (qs.length + 1) g hgn fun y hy => hlt y (hgl y hy)
          have hpre : l = (pre ++ [x]) ++ l2 := by rw [hpl]; simp
          refine ⟨_, rfl, ?_⟩
          try array_get_dec
          simp only [c_nin, c_in]
          refine ⟨.bool (!decide (x ∈ g)), by rw [in_refl hg]; rfl, _, rfl, ?_⟩
          by_cases hxg : x ∈ g
          · rw [if_neg (by simp [hxg])]
            refine ⟨pre ++ [x], l2, hpre, rfl, g, _, _, rfl, hg, hgn, hgl, hfg, fun y hy h => ?_, f5⟩
            rcases List.mem_append.mp hy with hy | hy
            · exact hgt y hy h
            · rw [List.mem_singleton.mp hy]; exact hxg
          · rw [if_pos (by simp [hxg])]
            refine ⟨_, ar_ix hxn, ?_⟩
            refine ⟨_, rfl, ?_⟩
            have hrow := row_short (qs := qs) (by omega) x
            refine lc_filF natD natD (fun o => decide (o ∈ g)) (by rw [show line = 16777216 from PySem.sizeLine_eq]; omega) (fun o ho S6 f6 hlt6 => ?_) fun S6 f6 => ?_
            · rw [ok_lcT]
              refine ⟨_, rfl, ?_⟩
              array_get_dec
              simp only [c_in]
              refine ⟨.bool (decide (o ∈ g)), by rw [in_refl (f6.get hg (by simp))]; rfl, _, rfl, ?_⟩
              by_cases q : o ∈ g
              · rw [if_pos (by simp [q]), if_pos (by simp [q])]
                exact ⟨rfl, Fr.refl _ _⟩
              · rw [if_neg (by simp [q]), if_neg (by simp [q])]
                exact ⟨rfl, Fr.refl _ _⟩
            · have hg6 := f6.get hg (by simp)
              generalize hr2 : (srt (rowOf qs x)).filter (fun o => decide (o ∈ g)) = r
              have hrm : ∀ o, o ∈ r ↔ adjOf qs x o ∧ o ∈ g := fun o => by
                rw [← hr2, List.mem_filter, row_nb (by omega), decide_eq_true_eq]
              have g1 : gn (.list (r.map natD)) := gn_list (gns_nats fun v hv => by
                have := hlt v (hgl v ((hrm v).mp hv).2)
                omega)
              have g2 : gn (.list []) := gn_list gns_nil
              refine ⟨Nat.zero_le _, _, by rw [eq_gn g1 g2]; rfl, _, rfl, ?_⟩
              have far : dp s x ≤ t + 1 → r ≠ [] := fun h z => by
                have hxs : x ≠ s := fun e => hxg (hfg x (hft x hx (by rw [e, T.dps s (hlt s hs)]; exact Nat.zero_le _)))
                have hw := hc s hs x hx hxs
                have d1 := T.dpnx s x (hlt s hs) hxn hxs
                have hwg := hfg _ (hft _ hw (by omega))
                have := (hrm (nx s x)).mpr ⟨T.nxadj s x (hlt s hs) hxn hxs, hwg⟩
                rw [z] at this
                cases this
              by_cases q : r = []
              · rw [if_neg (by simp [q])]
                refine ⟨pre ++ [x], l2, hpre, rfl, g, _, _, rfl, hg6, hgn, hgl, hfg, fun y hy h => ?_, f5.trans f6⟩
                rcases List.mem_append.mp hy with hy | hy
                · exact hgt y hy h
                · rw [List.mem_singleton.mp hy] at h
                  exact absurd q (far h)
              · have qq : ¬ (D.list (r.map natD) = D.list []) := fun z => by
                  injection z with z
                  exact q (by simpa using z)
                rw [if_pos (by simp [qq])]
                refine ⟨bmTy_ref hg6, _, _, append_ref hg6 (by rw [List.length_map, show line = 16777216 from PySem.sizeLine_eq]; omega), pre ++ [x], l2, hpre, rfl, g ++ [x], _, _, rfl, ?_, ?_, ?_, ?_, ?_, (f5.trans f6).setNew (Nat.le_refl _)⟩
                · rw [get_set hg6]
                  simp
                · exact List.nodup_append.mpr ⟨hgn, by simp, fun a ha b hb => by
                    have : b = x := by simpa using hb
                    rw [this]
                    exact fun z => hxg (z ▸ ha)⟩
                · intro y hy
                  rcases List.mem_append.mp hy with hy | hy
                  · exact hgl y hy
                  · rw [List.mem_singleton.mp hy]; exact hx
                · exact fun y hy => List.mem_append_left _ (hfg y hy)
                · intro y hy h
                  rcases List.mem_append.mp hy with hy | hy
                  · exact List.mem_append_left _ (hgt y hy h)
                  · exact List.mem_append_right _ hy
      · rintro η S5 ⟨pre, l2, g, o4, o5, hpl, hr, rfl, hg, hgn, hgl, hfg, hgt, f5⟩
        have : l2 = [] := by simpa using hr.symm
        subst this
        rw [List.append_nil] at hpl
        subst hz
        try array_get_dec
        exact ⟨t + 1, by omega, g, _, _, _, rfl, hg, hgn, hgl, fun x hx h => hgt x (hpl ▸ hx) h, f5⟩
    · rintro η S4 ⟨t, f, o3, o4, o5, hk, rfl, hf, hfn, hfl, hft, f4⟩
      try array_get_dec
      have ht : t = l.length := by simpa using hk
      have hall : ∀ x ∈ l, x ∈ f := fun x hx => hft x hx (by
        have := span_len T hlt hc hs hx
        omega)
      have e1 := sub_len hnd hall
      have e2 := sub_len hfn hfl
      refine ⟨_, len_ref hf, .bool true, ?_, rfl, f4⟩
      rw [eq_int]
      simp only [List.length_map]
      rw [decide_eq_true (by omega)]
      rfl
end
end Mi
set_option Elab.async false
set_option linter.all false
set_option maxRecDepth 100000
namespace Mi
open PySem L2 Tt IsTree
local macro_rules | `(tactic| array_get_dec) => `(tactic| simp only [wipeD, ok_exs, ok_exs0, go_next, go_ret, go_brk, go_cont, ok_sex, ok_ret, ok_set, ok_par, ok_seti, ok_seta, ok_site, ok_for, ok_pass, ok_brk, ok_cont, ok_v, ok_c, ok_g, ok_tup, ok_list, ok_mlist, ok_mdict, ok_mdictT, ok_edict, ok_bin, ok_mulm, ok_addm, ok_rngm, ok_neg, ok_cmp, ok_eqE, ok_cmp2, ok_isN, ok_isB, ok_not, ok_eite, ok_ix, ok_sl, ok_slm, ok_vals, ok_rev, ok_attr, ok_cattr, ok_call, ok_bc, ok_isi, ok_meth, ok_bm, ok_cm, ok_mk, ok_mkv, ok_mkx, ok_cs, ok_cmv, ok_lc2, ok_raise, ok_try, ok_fz, ok_lc, ok_evs0, ok_evs1, ok_evsS, ok_and, ok_or, ok_and1, ok_and2, ok_or1, ok_or2, ok_t0, ok_t1, ok_bind, ok_truth, b_add, b_sub, b_mul, b_fdiv, b_mod, b_pow, b_tup, b_list, ite_some, c_lt, c_le, c_gt, c_ge, c_eq, c_ne, eq_int, eq_str, Option.map_some, ix_list, ix_tup, len_list, len_tup, asg_n, asg_t, asgs_0, asgs_1, List.map_cons, List.map_nil, List.length_cons, List.length_nil, List.replicate_succ, List.replicate_zero, List.cons_append, List.nil_append, List.append_nil, Nat.reduceAdd, Nat.reduceSub, Nat.reduceLT, Nat.zero_add, Nat.lt_add_one, Nat.zero_lt_succ, Nat.succ_pos, List.set_cons_zero, List.set_cons_succ, List.getElem?_cons_zero, List.getElem?_cons_succ, Option.bind_some, Option.some.injEq, D.bool.injEq, D.int.injEq, exists_eq_left', exists_eq_left, exists_eq_right, exists_eq_right', exists_and_left, and_true, true_and, if_true, ne_eq, reduceCtorEq, not_false_eq_true, implies_true, if_pos, partE, exists_const, and_assoc, Prod.mk.injEq, if_false, Int.reduceToNat, Int.reducePow, Nat.reducePow, Int.reduceLT, Int.reduceLE, Int.reduceNeg, Int.reduceAdd, Int.reduceSub, Int.reduceMul, decide_eq_true_eq])
theorem repr_gd {w : Nat} {x : D} (h : gd w x) (hw : w ≤ 2 ^ 20) : ∃ z : Str, (∀ S, bfn .repr S [x] = some (.str z)) ∧ ∀ S, eqOp S (.str z) (.str z) = some true := by
  obtain ⟨p, p1, p2, p3, p4⟩ := h
  have e : ∀ S, pyS S x = some p := fun S => by
    unfold pyS
    rw [deref_data p1, p1]
  refine ⟨p.shown, fun S => ?_, fun S => ?_⟩
  · show (reprD S x).map D.str = _
    rw [(repr_is (e S) p2 (by omega) (by omega)).1]
    rfl
  · have := (repr_is (e S) p2 (by omega) (by omega)).2
    rw [eq_str this this]
    simp
section
variable {qs : List (Nat × Nat)} {nx dp : Nat → Nat → Nat} {L : Nat}
theorem deepL_nodup (R : Rail qs nx dp) (hl : qs.length ≤ 99) (m : Nat) : (deepL qs dp L m).Nodup := (row_nodup R (by omega) m).filter _
theorem deepL_len (hl : qs.length ≤ 99) (m : Nat) : (deepL qs dp L m).length ≤ 200 := by
  have h1 := row_short (qs := qs) (by omega) m
  have h2 : (deepL qs dp L m).length ≤ (srt (rowOf qs m)).length := List.length_filter_le _ _
  omega
theorem deepL_lt (R : Rail qs nx dp) (hl : qs.length ≤ 99) {m o : Nat} (h : o ∈ deepL qs dp L m) : o < 200 := by
  have := (R.T.lt _ _ ((deepL_mem R.T (by omega)).mp h).1).2
  omega
theorem jnt_lt {k x : Nat} (h : x ∈ jnt qs dp L k) : x < qs.length + 1 := List.mem_range.mp (List.mem_filter.mp h).1
theorem jnt_mem {k x : Nat} : x ∈ jnt qs dp L k ↔ x < qs.length + 1 ∧ k ≤ (deepL qs dp L x).length := by
  unfold jnt
  rw [List.mem_filter, List.mem_range, decide_eq_true_eq]
theorem jnt_nodup (k : Nat) : (jnt qs dp L k).Nodup := List.nodup_range.filter _
theorem jnt_len (k : Nat) : (jnt qs dp L k).length ≤ qs.length + 1 := by
  have := List.length_filter_le (fun m => decide (k ≤ (deepL qs dp L m).length)) (List.range (qs.length + 1))
  rwa [List.length_range] at this
theorem gd_jnt (hl : qs.length ≤ 99) (k : Nat) : gd 10000 (.tup ((jnt qs dp L k).map natD)) := gd_nats (fun v hv => by
  have := jnt_lt hv
  omega) (by have := jnt_len (qs := qs) (dp := dp) (L := L) k; omega)
theorem gn_jnt (hl : qs.length ≤ 99) (k : Nat) : gn (.tup ((jnt qs dp L k).map natD)) := gn_tup (gns_nats fun v hv => by
  have := jnt_lt hv
  omega)
theorem db_iff (R : Rail qs nx dp) (hl : qs.length ≤ 99) {m : Nat} (hm : m < qs.length + 1) : 2 ≤ (deepL qs dp L m).length ↔ Db (qs.length + 1) nx dp L m := by
  have T := R.T
  constructor
  · intro h
    obtain ⟨a, b, ha, hb, hne⟩ := two_of h (deepL_nodup R hl m)
    obtain ⟨_, v, v1, v2, v3, v4⟩ := (deepL_mem T (by omega)).mp ha
    obtain ⟨_, w, w1, w2, w3, w4⟩ := (deepL_mem T (by omega)).mp hb
    exact ⟨v, w, v1, w1, v2, w2, by rw [v3, w3]; exact hne, v4, w4⟩
  · rintro ⟨v, w, v1, w1, v2, w2, hne, v4, w4⟩
    exact of_two ((deepL_mem T (by omega)).mpr ⟨T.nxadj v m v1 hm (fun e => v2 e.symm), v, v1, v2, rfl, v4⟩) ((deepL_mem T (by omega)).mpr ⟨T.nxadj w m w1 hm (fun e => w2 e.symm), w, w1, w2, rfl, w4⟩) hne
theorem jnt_conv (R : Rail qs nx dp) (hl : qs.length ≤ 99) : ∀ s ∈ jnt qs dp L 2, ∀ x ∈ jnt qs dp L 2, x ≠ s → nx s x ∈ jnt qs dp L 2 := fun s hs x hx hne => by
  obtain ⟨s1, s2⟩ := jnt_mem.mp hs
  obtain ⟨x1, x2⟩ := jnt_mem.mp hx
  have hw := R.T.nxlt s x s1 x1
  exact jnt_mem.mpr ⟨hw, (db_iff R hl hw).mpr (((db_iff R hl s1).mp s2).conv R.T s1 x1 ((db_iff R hl x1).mp x2) hne)⟩
theorem near_deep (R : Rail qs nx dp) (hl : qs.length ≤ 99) {m o : Nat} (ha : adjOf qs m o) (h : o ∈ jnt qs dp L 2) : o ∈ deepL qs dp L m := by
  obtain ⟨o1, o2⟩ := jnt_mem.mp h
  exact (deepL_mem R.T (by omega)).mpr ⟨ha, ((db_iff R hl o1).mp o2).near R.T ha⟩
theorem deepL_mono {M m : Nat} (h : L ≤ M) : (deepL qs dp M m).length ≤ (deepL qs dp L m).length := by
  unfold deepL
  generalize srt (rowOf qs m) = l
  induction l with
  | nil => exact Nat.le_refl _
  | cons o l ih =>
    rw [List.filter_cons, List.filter_cons]
    by_cases q : M ≤ 1 + dpth (qs.length + 1) dp o m
    · rw [if_pos (by simp [q]), if_pos (by simp; omega)]
      simpa using ih
    · rw [if_neg (by simp [q])]
      split
      · exact Nat.le_succ_of_le ih
      · exact ih
theorem jnt_mono {M k x : Nat} (h : L ≤ M) (hx : x ∈ jnt qs dp M k) : x ∈ jnt qs dp L k := by
  obtain ⟨h1, h2⟩ := jnt_mem.mp hx
  exact jnt_mem.mpr ⟨h1, Nat.le_trans h2 (deepL_mono h)⟩
end
@[irreducible] def qTail2 : List St := [.for_ .seq [(.v 6)] (.n 5) [.set (.n 9) (.lc false [10] .seq [(.ix (.v 1) (.v 5))] (.n 10) [(.cmp .in_ (.v 10) (.v 6))] (.v 10)), .ite (.or_ [(.cmp .ne (.lc false [10] .seq [(.v 9)] (.n 10) [(.cmp .nin (.v 10) (.ix (.v 4) (.v 5)))] (.v 10)) (.list [])), (.and_ [(.cmp .eq (.v 7) (.tup [])), (.cmp .gt (.bc .len [(.v 9)]) (.c (.int 2)))])]) [.ret (.c (.bool false))] []],
  .set (.n 8) (.lc false [5] .seq [(.call 34 [(.v 0), (.bin .add (.v 3) (.c (.int 1)))] [] [])] (.n 5) [(.cmp .nin (.v 5) (.v 6))] (.v 5)),
  .ret (.cmp .eq (.bin .add (.v 8) (.lc false [5] .seq [(.call 35 [(.v 0), (.bin .add (.v 3) (.c (.int 1)))] [] [])] (.n 5) [(.cmp .nin (.v 5) (.v 7))] (.v 5))) (.list []))]
section
variable {qs : List (Nat × Nat)} {nx dp : Nat → Nat → Nat}
theorem t_qTail2 (n0 : Nat) {S : Store} (R : Rail qs nx dp) (hl : qs.length ≤ 99) {L c : Nat} (h1 : 1 ≤ L) (hc : S[c]? = some (.list ((List.range (qs.length + 1)).map fun m => .list ((deepL qs dp L m).map natD)))) {o2 o5 o8 o9 o10 o11 : Option D} {Q : Fl → Env → Store → Prop}
    (k : ∀ η S', Fr [] S S' → Q (.ret (.bool true)) η S') :
    OkX (exs Tt.T.prog (run Tt.T.prog (n0 + 7)) qTail2 [some (railD qs nx dp), some (arD qs), o2, some (.int L), some (.ref c), o5, some (.tup ((jnt qs dp L 2).map natD)), some (.tup ((jnt qs dp L 3).map natD)), o8, o9, o10, o11] S) Q (fun e η S => Mi.nx e S) := by
  have T := R.T
  unfold qTail2
  array_get_dec
  refine ⟨_, rfl, ?_⟩
  refine for_inv (fun rest η S' => ∃ (l : List Nat) (o5 o9 o10 : Option D), (∀ x ∈ l, x ∈ jnt qs dp L 2) ∧ rest = l.map natD ∧ η = [some (railD qs nx dp), some (arD qs), o2, some (.int L), some (.ref c), o5, some (.tup ((jnt qs dp L 2).map natD)), some (.tup ((jnt qs dp L 3).map natD)), o8, o9, o10, o11] ∧ Fr [] S S')
    ⟨jnt qs dp L 2, o5, o9, o10, fun x hx => hx, rfl, rfl, Fr.refl _ _⟩ ?_ ?_
  · rintro z ys η S4 ⟨l, o5, o9, o10, hl4, hr, rfl, f4⟩
    cases l with
    | nil => cases hr
    | cons x l =>
      rw [List.map_cons] at hr
      obtain ⟨rfl, rfl⟩ := List.cons.inj hr
      have hx := hl4 x (by simp)
      have hxn := jnt_lt hx
      refine ⟨_, rfl, ?_⟩
      try array_get_dec
      refine ⟨_, ar_ix hxn, _, rfl, ?_⟩
      have hrow := row_short (qs := qs) (by omega) x
      refine lc_filF natD natD (fun o => decide (o ∈ jnt qs dp L 2)) (by rw [show line = 16777216 from PySem.sizeLine_eq]; omega) (fun o ho S6 f6 hlt6 => ?_) fun S6 f6 => ?_
      · rw [ok_lcT]
        refine ⟨_, rfl, ?_⟩
        array_get_dec
        simp only [c_in]
        refine ⟨.bool (decide (o ∈ jnt qs dp L 2)), by rw [in_tup]; rfl, _, rfl, ?_⟩
        by_cases q : o ∈ jnt qs dp L 2
        · rw [if_pos (by simp [q]), if_pos (by simp [q])]
          exact ⟨rfl, Fr.refl _ _⟩
        · rw [if_neg (by simp [q]), if_neg (by simp [q])]
          exact ⟨rfl, Fr.refl _ _⟩
      · generalize hr2 : (srt (rowOf qs x)).filter (fun o => decide (o ∈ jnt qs dp L 2)) = r
        have hrm : ∀ o, o ∈ r → o ∈ deepL qs dp L x := fun o ho => by
          rw [← hr2, List.mem_filter, row_nb (by omega), decide_eq_true_eq] at ho
          exact near_deep R hl ho.1 ho.2
        have hrn : r.Nodup := by
          rw [← hr2]
          exact (row_nodup R (by omega) x).filter _
        have hrl := sub_len hrn hrm
        have hdl := deepL_len (qs := qs) (dp := dp) (L := L) hl x
        have hcx : ∀ S7, Fr [] S S7 → ixop S7 (.ref c) (.int x) = some (.list ((deepL qs dp L x).map natD)) := fun S7 f7 => by
          rw [ix_refL (f7.get hc (by simp)), atI_nat, List.getElem?_map, List.getElem?_range hxn]
          rfl
        have f46 := f4.trans f6
        refine ⟨_, rfl, ?_⟩
        refine lc_filF natD natD (fun _ => false) (by rw [show line = 16777216 from PySem.sizeLine_eq]; omega) (fun o ho S7 f7 hlt7 => ?_) fun S7 f7 => ?_
        · rw [ok_lcT]
          refine ⟨_, rfl, ?_⟩
          array_get_dec
          simp only [c_nin]
          refine ⟨_, hcx S7 (f46.trans f7), .bool false, ?_, false, rfl, ?_⟩
          · have : inOp S7 (.int o) (.list ((deepL qs dp L x).map natD)) = some (decide (o ∈ deepL qs dp L x)) := in_list
            rw [this, decide_eq_true (hrm o ho)]
            rfl
          · rw [if_neg (by simp)]
            first | exact ⟨rfl, Fr.refl _ _⟩ | exact Fr.refl _ _
        · have ef : r.filter (fun _ => false) = [] := List.filter_eq_nil_iff.mpr (fun _ _ => by simp)
          rw [ef]
          have g0 : gn (.list []) := gn_list gns_nil
          refine ⟨Nat.zero_le _, .bool false, by rw [show List.map natD [] = [] from rfl, eq_gn g0 g0]; simp, false, rfl, ?_⟩
          rw [if_neg (by simp)]
          refine ⟨Nat.zero_le _, .bool (decide (jnt qs dp L 3 = [])), ?_, _, rfl, ?_⟩
          · rw [eq_gn (gn_jnt hl 3) (gn_tup gns_nil)]
            show some (D.bool _) = _
            congr 2
            refine decide_eq_decide.mpr ⟨fun z => ?_, fun z => by rw [z]; rfl⟩
            injection z with z
            simpa using z
          · have fin := f46.trans f7
            by_cases q : jnt qs dp L 3 = []
            · rw [if_pos (by simp [q])]
              have h2 : r.length ≤ 2 := by
                rcases Nat.lt_or_ge (deepL qs dp L x).length 3 with z | z
                · omega
                · have := jnt_mem.mpr ⟨hxn, z⟩
                  rw [q] at this
                  cases this
              refine ⟨_, by rw [len_list, List.length_map], .bool false, by rw [c_gt, decide_eq_false (by omega)], false, rfl, ?_⟩
              rw [if_neg (by simp)]
              exact ⟨l, fun y hy => hl4 y (by simp [hy]), rfl, _, _, _, rfl, fin⟩
            · rw [if_neg (by simp [q])]
              exact ⟨l, fun y hy => hl4 y (by simp [hy]), rfl, _, _, _, rfl, fin⟩
  · rintro η S4 ⟨l, o5, o9, o10, hl4, hr, rfl, f4⟩
    try array_get_dec
    have eL : (L : Int) + 1 = ((L + 1 : Nat) : Int) := by push_cast; rfl
    rw [eL]
    refine ok_fr (t_trunk n0 T (by omega) (L := L + 1) (by omega)) fun S5 f5 => ?_
    refine ⟨_, rfl, ?_⟩
    have hj2 := jnt_len (qs := qs) (dp := dp) (L := L + 1) 2
    have hj3 := jnt_len (qs := qs) (dp := dp) (L := L + 1) 3
    refine lc_filF natD natD (fun _ => false) (by rw [show line = 16777216 from PySem.sizeLine_eq]; omega) (fun o ho S6 f6 hlt6 => ?_) fun S6 f6 => ?_
    · rw [ok_lcT]
      refine ⟨_, rfl, ?_⟩
      array_get_dec
      simp only [c_nin]
      refine ⟨.bool false, by rw [in_tup, decide_eq_true (jnt_mono (Nat.le_succ L) ho)]; rfl, false, rfl, ?_⟩
      rw [if_neg (by simp)]
      first | exact ⟨rfl, Fr.refl _ _⟩ | exact Fr.refl _ _
    · have ef : ∀ l : List Nat, l.filter (fun _ => false) = [] := fun l => List.filter_eq_nil_iff.mpr (fun _ _ => by simp)
      rw [ef]
      try array_get_dec
      refine ok_fr (t_pivots n0 T (by omega) (L := L + 1) (by omega)) fun S7 f7 => ?_
      refine ⟨_, rfl, ?_⟩
      refine lc_filF natD natD (fun _ => false) (by rw [show line = 16777216 from PySem.sizeLine_eq]; omega) (fun o ho S8 f8 hlt8 => ?_) fun S8 f8 => ?_
      · rw [ok_lcT]
        refine ⟨_, rfl, ?_⟩
        array_get_dec
        simp only [c_nin]
        refine ⟨.bool false, by rw [in_tup, decide_eq_true (jnt_mono (Nat.le_succ L) ho)]; rfl, false, rfl, ?_⟩
        rw [if_neg (by simp)]
        first | exact ⟨rfl, Fr.refl _ _⟩ | exact Fr.refl _ _
      · rw [ef]
        have g0 : gn (.list []) := gn_list gns_nil
        refine ⟨.list [], rfl, Nat.zero_le _, .bool true, by rw [eq_gn g0 g0]; simp, ?_⟩
        exact k _ _ (f4.trans (f5.trans (f6.trans (f7.trans f8))))
end
end Mi
set_option Elab.async false
set_option linter.all false
set_option maxRecDepth 100000
namespace Mi
open PySem L2 Tt IsTree
local macro_rules | `(tactic| array_get_dec) => `(tactic| simp only [wipeD, ok_exs, ok_exs0, go_next, go_ret, go_brk, go_cont, ok_sex, ok_ret, ok_set, ok_par, ok_seti, ok_seta, ok_site, ok_for, ok_pass, ok_brk, ok_cont, ok_v, ok_c, ok_g, ok_tup, ok_list, ok_mlist, ok_mdict, ok_mdictT, ok_edict, ok_bin, ok_mulm, ok_addm, ok_rngm, ok_neg, ok_cmp, ok_eqE, ok_cmp2, ok_isN, ok_isB, ok_not, ok_eite, ok_ix, ok_sl, ok_slm, ok_vals, ok_rev, ok_attr, ok_cattr, ok_call, ok_bc, ok_isi, ok_meth, ok_bm, ok_cm, ok_mk, ok_mkv, ok_mkx, ok_cs, ok_cmv, ok_lc2, ok_raise, ok_try, ok_fz, ok_lc, ok_evs0, ok_evs1, ok_evsS, ok_and, ok_or, ok_and1, ok_and2, ok_or1, ok_or2, ok_t0, ok_t1, ok_bind, ok_truth, b_add, b_sub, b_mul, b_fdiv, b_mod, b_pow, b_tup, b_list, ite_some, c_lt, c_le, c_gt, c_ge, c_eq, c_ne, eq_int, eq_str, Option.map_some, ix_list, ix_tup, len_list, len_tup, asg_n, asg_t, asgs_0, asgs_1, List.map_cons, List.map_nil, List.length_cons, List.length_nil, List.replicate_succ, List.replicate_zero, List.cons_append, List.nil_append, List.append_nil, Nat.reduceAdd, Nat.reduceSub, Nat.reduceLT, Nat.zero_add, Nat.lt_add_one, Nat.zero_lt_succ, Nat.succ_pos, List.set_cons_zero, List.set_cons_succ, List.getElem?_cons_zero, List.getElem?_cons_succ, Option.bind_some, Option.some.injEq, D.bool.injEq, D.int.injEq, exists_eq_left', exists_eq_left, exists_eq_right, exists_eq_right', exists_and_left, and_true, true_and, if_true, ne_eq, reduceCtorEq, not_false_eq_true, implies_true, if_pos, partE, exists_const, and_assoc, Prod.mk.injEq, if_false, Int.reduceToNat, Int.reducePow, Nat.reducePow, Int.reduceLT, Int.reduceLE, Int.reduceNeg, Int.reduceAdd, Int.reduceSub, Int.reduceMul, decide_eq_true_eq])
@[irreducible] def qTail1 : List St := .set (.n 6) (.bc .tuple [(.lc false [5] .rng1 [(.bc .len [(.v 1)])] (.n 5) [(.cmp .gt (.bc .len [(.ix (.v 4) (.v 5))]) (.c (.int 1)))] (.v 5))]) ::
  .set (.n 7) (.bc .tuple [(.lc false [5] .rng1 [(.bc .len [(.v 1)])] (.n 5) [(.cmp .gt (.bc .len [(.ix (.v 4) (.v 5))]) (.c (.int 2)))] (.v 5))]) ::
  .ite (.cmp .ne (.bc .repr [(.list [(.call 34 [(.v 0), (.v 3)] [] []), (.call 34 [] ["length", "railway"] [(.v 3), (.v 0)])])]) (.bc .repr [(.list [(.v 6), (.v 6)])])) [.ret (.c (.bool false))] [] ::
  .ite (.cmp .ne (.bc .repr [(.list [(.call 35 [(.v 0), (.v 3)] [] []), (.call 35 [] ["length", "railway"] [(.v 3), (.v 0)])])]) (.bc .repr [(.list [(.v 7), (.v 7)])])) [.ret (.c (.bool false))] [] ::
  .ite (.not_ (.call 11 [(.v 1), (.bc .list [(.v 6)])] [] [])) [.ret (.c (.bool false))] [] :: qTail2
section
variable {qs : List (Nat × Nat)} {nx dp : Nat → Nat → Nat}
theorem t_qTail1 (n0 : Nat) {S : Store} (R : Rail qs nx dp) (hl : qs.length ≤ 99) {L c : Nat} (h1 : 1 ≤ L) (hc : S[c]? = some (.list ((List.range (qs.length + 1)).map fun m => .list ((deepL qs dp L m).map natD)))) {o2 o5 o6 o7 o8 o9 o10 o11 : Option D} {Q : Fl → Env → Store → Prop}
    (k : ∀ η S', Fr [] S S' → Q (.ret (.bool true)) η S') :
    OkX (exs Tt.T.prog (run Tt.T.prog (n0 + 7)) qTail1 [some (railD qs nx dp), some (arD qs), o2, some (.int L), some (.ref c), o5, o6, o7, o8, o9, o10, o11] S) Q (fun e η S => Mi.nx e S) := by
  have T := R.T
  unfold qTail1
  array_get_dec
  have hcx : ∀ S7 x, Fr [] S S7 → x < qs.length + 1 → ixop S7 (.ref c) (.int x) = some (.list ((deepL qs dp L x).map natD)) := fun S7 x f7 hxn => by
    rw [ix_refL (f7.get hc (by simp)), atI_nat, List.getElem?_map, List.getElem?_range hxn]
    rfl
  have hj : ∀ k, (List.range (qs.length + 1)).filter (fun m => decide (k < (deepL qs dp L m).length)) = jnt qs dp L (k + 1) := fun k => rfl
  refine ⟨_, ar_len, _, rng1_items (by omega) (by omega), ?_⟩
  rw [range0]
  refine lc_filF (fun i : Nat => D.int i) natD (fun m => decide (1 < (deepL qs dp L m).length)) (by rw [List.length_range, show line = 16777216 from PySem.sizeLine_eq]; omega) (fun m hm S' f hlt => ?_) fun S1 f1 => ?_
  · have hm := List.mem_range.mp hm
    rw [ok_lcT]
    refine ⟨_, rfl, ?_⟩
    array_get_dec
    refine ⟨_, hcx _ _ f hm, _, by rw [len_list, List.length_map], .bool (decide (1 < (deepL qs dp L m).length)), ?_, _, rfl, ?_⟩
    · rw [c_gt]
      congr 2
      exact decide_eq_decide.mpr (by omega)
    · by_cases q : 1 < (deepL qs dp L m).length
      · rw [if_pos (by simp [q]), if_pos (by simp [q])]
        exact ⟨rfl, Fr.refl _ _⟩
      · rw [if_neg (by simp; omega), if_neg (by simp; omega)]
        exact ⟨rfl, Fr.refl _ _⟩
  · rw [hj 1]
    refine ⟨_, rfl, ?_⟩
    try array_get_dec
    refine ⟨_, ar_len, _, rng1_items (by omega) (by omega), ?_⟩
    rw [range0]
    refine lc_filF (fun i : Nat => D.int i) natD (fun m => decide (2 < (deepL qs dp L m).length)) (by rw [List.length_range, show line = 16777216 from PySem.sizeLine_eq]; omega) (fun m hm S' f hlt => ?_) fun S2 f2 => ?_
    · have hm := List.mem_range.mp hm
      rw [ok_lcT]
      refine ⟨_, rfl, ?_⟩
      array_get_dec
      refine ⟨_, hcx _ _ (f1.trans f) hm, _, by rw [len_list, List.length_map], .bool (decide (2 < (deepL qs dp L m).length)), ?_, _, rfl, ?_⟩
      · rw [c_gt]
        congr 2
        exact decide_eq_decide.mpr (by omega)
      · by_cases q : 2 < (deepL qs dp L m).length
        · rw [if_pos (by simp [q]), if_pos (by simp [q])]
          exact ⟨rfl, Fr.refl _ _⟩
        · rw [if_neg (by simp; omega), if_neg (by simp; omega)]
          exact ⟨rfl, Fr.refl _ _⟩
    · rw [hj 2]
      refine ⟨_, rfl, ?_⟩
      try array_get_dec
      have gj : ∀ k, gds 20002 [.tup ((jnt qs dp L k).map natD), .tup ((jnt qs dp L k).map natD)] := fun k => gds_all (w := 10000) (fun x hx => by
        have hx : x = .tup ((jnt qs dp L k).map natD) := by simpa using hx
        rw [hx]
        exact gd_jnt hl k) (by simp)
      refine ok_fr (t_trunk n0 T (by omega) h1) fun S3 f3 => ?_
      rw [call_as (fn := f_trunk) (ds := [railD qs nx dp, .int L]) rfl rfl rfl]
      refine ok_fr (t_trunk n0 T (by omega) h1) fun S4 f4 => ?_
      refine repr_step (gj 2) (by decide) ?_
      refine ok_fr (t_pivots n0 T (by omega) h1) fun S5 f5 => ?_
      rw [call_as (fn := f_pivots) (ds := [railD qs nx dp, .int L]) rfl rfl rfl]
      refine ok_fr (t_pivots n0 T (by omega) h1) fun S6 f6 => ?_
      refine repr_step (gj 3) (by decide) ?_
      refine ⟨_, rfl, ?_⟩
      refine ok_fr (t_joined (n0 + 6) R hl (jnt_nodup 2) (fun x hx => jnt_lt hx) (jnt_conv R hl)) fun S7 f7 => ?_
      refine ⟨true, rfl, ?_⟩
      rw [if_neg (by simp)]
      have fin := f1.trans (f2.trans (f3.trans (f4.trans (f5.trans (f6.trans f7)))))
      exact t_qTail2 n0 R hl h1 (fin.get hc (by simp)) fun η S' f => k _ _ (fin.trans f)
theorem t_lenR (n0 : Nat) {S : Store} (R : Rail qs nx dp) (hl : qs.length ≤ 99) {L : Nat} (h1 : 1 ≤ L) :
    Ok (callM Tt.T.prog (run Tt.T.prog (n0 + 8)) i__law_length_right [railD qs nx dp, arD qs, dpD qs dp, .int L] [] [] S) (fun r S' => r = .bool true ∧ Fr [] S S') Mi.nx := by
  have T := R.T
  generalize hd : railD qs nx dp = dd
  generalize ha : arD qs = aa
  generalize hp : dpD qs dp = pp
  refine ok_fn (fn := f__law_length_right) (ds := [dd, aa, pp, .int L]) rfl rfl ?_
  unfold f__law_length_right
  with_unfolding_all change OkX (exs _ _ (_ :: _ :: qTail1) _ _) _ _
  array_get_dec
  subst hd
  subst ha
  subst hp
  refine ⟨Nat.zero_le _, _, ar_len, _, rng1_items (by omega) (by omega), ?_⟩
  rw [range0]
  refine for_inv (fun rest η S' => ∃ (j : Nat) (o5 o10 o11 : Option D), j ≤ qs.length + 1 ∧ rest = (List.range' j (qs.length + 1 - j)).map (fun i : Nat => D.int i) ∧ η = [some (railD qs nx dp), some (arD qs), some (dpD qs dp), some (.int L), some (.ref S.length), o5, none, none, none, none, o10, o11] ∧ S'[S.length]? = some (.list ((List.range j).map fun m => .list ((deepL qs dp L m).map natD))) ∧ Fr [] S S')
    ⟨0, none, none, none, Nat.zero_le _, by rw [Nat.sub_zero, List.range_eq_range'], rfl, get_new, Fr.app _ _ _⟩ ?_ ?_
  · rintro x ys η S4 ⟨j, o5, o10, o11, hj, hr, rfl, hc, f4⟩
    have hlt : j < qs.length + 1 := by
      rcases Nat.lt_or_ge j (qs.length + 1) with q | q
      · exact q
      · rw [show qs.length + 1 - j = 0 by omega] at hr; cases hr
    rw [show qs.length + 1 - j = (qs.length + 1 - (j + 1)) + 1 by omega, List.range'_succ, List.map_cons] at hr
    obtain ⟨rfl, rfl⟩ := List.cons.inj hr
    refine ⟨_, rfl, ?_⟩
    try array_get_dec
    have hrow := row_short (qs := qs) (by omega) j
    have ej : ixop S4 (dpD qs dp) (.int j) = some (.list ((brs qs dp j).map pairD)) := by
      unfold dpD
      rw [ix_list, atI_nat, List.getElem?_map, List.getElem?_range hlt]
      rfl
    refine ⟨bmTy_ref hc, _, ej, _, rfl, ?_⟩
    refine lc_filF pairD (fun p => natD p.1) (fun p => decide (L ≤ p.2)) (by unfold brs; rw [List.length_map, show line = 16777216 from PySem.sizeLine_eq]; omega) (fun p hp S' f hlt => ?_) fun S5 f5 => ?_
    · rw [ok_lcT]
      refine ⟨_, rfl, ?_⟩
      array_get_dec
      by_cases q : L ≤ p.2
      · rw [if_pos (by omega), if_pos (by simp [q])]
        exact ⟨rfl, Fr.refl _ _⟩
      · rw [if_neg (by omega), if_neg (by simp [q])]
        exact ⟨rfl, Fr.refl _ _⟩
    · have e1 : ((brs qs dp j).filter fun p => decide (L ≤ p.2)).map (fun p => natD p.1) = (deepL qs dp L j).map natD := by
        unfold deepL brs
        rw [List.filter_map, List.map_map]
        rfl
      rw [e1]
      have hc5 := f5.get hc (by simp)
      refine ⟨_, _, append_ref hc5 (by rw [List.length_map, List.length_range, show line = 16777216 from PySem.sizeLine_eq]; omega), ?_⟩
      have g6 : (S5.set S.length (.list (((List.range j).map fun m => D.list ((deepL qs dp L m).map natD)) ++ [D.list ((deepL qs dp L j).map natD)])))[S.length]? = some (.list ((List.range (j + 1)).map fun m => D.list ((deepL qs dp L m).map natD))) := by
        rw [get_set hc5, List.range_succ, List.map_append]
        rfl
      generalize hS6 : S5.set S.length (.list (((List.range j).map fun m => D.list ((deepL qs dp L m).map natD)) ++ [D.list ((deepL qs dp L j).map natD)])) = S6 at g6
      have f6 : Fr [] S S6 := by
        rw [← hS6]
        exact (f4.trans f5).setNew (Nat.le_refl _)
      refine ok_fr (t_deepB (n0 + 1) T (by omega) (L := L) hlt h1) fun S7 f7 => ?_
      have g7 := f7.get g6 (by simp)
      have hd := deepL_len (qs := qs) (dp := dp) (L := L) hl j
      obtain ⟨z, z1, z2⟩ := repr_gd (w := 10000) (x := .tup ((deepL qs dp L j).map natD)) (gd_nats (fun v hv => by
        have := deepL_lt R hl hv
        omega) (by omega)) (by decide)
      refine ⟨_, z1 _, .list ((deepL qs dp L j).map natD), ?_, _, rfl, _, z1 _, .bool false, by rw [z2]; rfl, false, rfl, ?_⟩
      · rw [ix_refL g7, atI_nat, List.getElem?_map, List.getElem?_range (Nat.lt_succ_self _)]
        rfl
      · rw [if_neg (by simp)]
        exact ⟨j + 1, by omega, rfl, _, _, _, rfl, g7, f6.trans f7⟩
  · rintro η S4 ⟨j, o5, o10, o11, hj, hr, rfl, hc, f4⟩
    have hjn : j = qs.length + 1 := by
      have := congrArg List.length hr
      simp at this
      omega
    subst hjn
    try array_get_dec
    exact t_qTail1 n0 R hl h1 hc fun η S' f => ⟨rfl, f4.trans f⟩
end
end Mi
set_option Elab.async false
set_option linter.all false
set_option maxRecDepth 100000
namespace Mi
open PySem L2 Tt IsTree
local macro_rules | `(tactic| array_get_dec) => `(tactic| simp only [wipeD, ok_exs, ok_exs0, go_next, go_ret, go_brk, go_cont, ok_sex, ok_ret, ok_set, ok_par, ok_seti, ok_seta, ok_site, ok_for, ok_pass, ok_brk, ok_cont, ok_v, ok_c, ok_g, ok_tup, ok_list, ok_mlist, ok_mdict, ok_mdictT, ok_edict, ok_bin, ok_mulm, ok_addm, ok_rngm, ok_neg, ok_cmp, ok_eqE, ok_cmp2, ok_isN, ok_isB, ok_not, ok_eite, ok_ix, ok_sl, ok_slm, ok_vals, ok_rev, ok_attr, ok_cattr, ok_call, ok_bc, ok_isi, ok_meth, ok_bm, ok_cm, ok_mk, ok_mkv, ok_mkx, ok_cs, ok_cmv, ok_lc2, ok_raise, ok_try, ok_fz, ok_lc, ok_evs0, ok_evs1, ok_evsS, ok_and, ok_or, ok_and1, ok_and2, ok_or1, ok_or2, ok_t0, ok_t1, ok_bind, ok_truth, b_add, b_sub, b_mul, b_fdiv, b_mod, b_pow, b_tup, b_list, ite_some, c_lt, c_le, c_gt, c_ge, c_eq, c_ne, eq_int, eq_str, Option.map_some, ix_list, ix_tup, len_list, len_tup, asg_n, asg_t, asgs_0, asgs_1, List.map_cons, List.map_nil, List.length_cons, List.length_nil, List.replicate_succ, List.replicate_zero, List.cons_append, List.nil_append, List.append_nil, Nat.reduceAdd, Nat.reduceSub, Nat.reduceLT, Nat.zero_add, Nat.lt_add_one, Nat.zero_lt_succ, Nat.succ_pos, List.set_cons_zero, List.set_cons_succ, List.getElem?_cons_zero, List.getElem?_cons_succ, Option.bind_some, Option.some.injEq, D.bool.injEq, D.int.injEq, exists_eq_left', exists_eq_left, exists_eq_right, exists_eq_right', exists_and_left, and_true, true_and, if_true, ne_eq, reduceCtorEq, not_false_eq_true, implies_true, if_pos, partE, exists_const, and_assoc, Prod.mk.injEq, if_false, Int.reduceToNat, Int.reducePow, Nat.reducePow, Int.reduceLT, Int.reduceLE, Int.reduceNeg, Int.reduceAdd, Int.reduceSub, Int.reduceMul, decide_eq_true_eq])
theorem eqB {S : Store} (a b : Bool) : eqOp S (.bool a) (.bool b) = some (a == b) := by
  cases a <;> cases b <;> rfl
section
variable {qs : List (Nat × Nat)} {nx dp : Nat → Nat → Nat}
theorem wide_ex (n : Nat) (hn : 0 < n) (dp : Nat → Nat → Nat) : ∃ M, (∃ s v, s < n ∧ v < n ∧ dp s v = M) ∧ ∀ s v, s < n → v < n → dp s v ≤ M := by
  obtain ⟨_, ⟨s, hs, e1⟩, h3⟩ := ecc_spec (n := n) (f := fun s => eccF n (dp s)) hn
  obtain ⟨_, ⟨v, hv, e2⟩, _⟩ := ecc_spec (n := n) (f := dp s) hn
  refine ⟨_, ⟨s, v, hs, hv, rfl⟩, fun u w hu hw => ?_⟩
  obtain ⟨_, _, h5⟩ := ecc_spec (n := n) (f := dp u) hn
  have a1 := h5 w hw
  have a2 := h3 u hu
  have e1 : eccF n (dp s) = eccF n fun s => eccF n (dp s) := e1
  have a2 : eccF n (dp u) ≤ eccF n fun s => eccF n (dp s) := a2
  omega
theorem trunk_wide (R : Rail qs nx dp) (hl : qs.length ≤ 99) {M L : Nat} (h1 : ∃ s v, s < qs.length + 1 ∧ v < qs.length + 1 ∧ dp s v = M) (h2 : ∀ s v, s < qs.length + 1 → v < qs.length + 1 → dp s v ≤ M) (hL : 1 ≤ L) : jnt qs dp L 2 ≠ [] ↔ 2 * L ≤ M := by
  have T := R.T
  constructor
  · intro h
    obtain ⟨x, hx⟩ := List.exists_mem_of_ne_nil _ h
    obtain ⟨x1, x2⟩ := jnt_mem.mp hx
    obtain ⟨u, v, hu, hv, e⟩ := ((db_iff R hl x1).mp x2).wide T x1
    have := h2 u v hu hv
    omega
  · intro h z
    obtain ⟨s, v, hs, hv, e⟩ := h1
    obtain ⟨m, hm, hd⟩ := Db.of_wide T hs hv hL (by omega)
    have := jnt_mem.mpr ⟨hm, (db_iff R hl hm).mpr hd⟩
    rw [z] at this
    cases this
theorem deep_none (R : Rail qs nx dp) (hl : qs.length ≤ 99) {M L m : Nat} (h2 : ∀ s v, s < qs.length + 1 → v < qs.length + 1 → dp s v ≤ M) (hm : m < qs.length + 1) (h : M < L) : deepL qs dp L m = [] := by
  refine List.eq_nil_iff_forall_not_mem.mpr fun o ho => ?_
  obtain ⟨_, v, v1, _, _, v4⟩ := (deepL_mem R.T (by omega)).mp ho
  have := h2 m v hm v1
  omega
theorem jnt_none (R : Rail qs nx dp) (hl : qs.length ≤ 99) {M L k : Nat} (h2 : ∀ s v, s < qs.length + 1 → v < qs.length + 1 → dp s v ≤ M) (h : M < L) (hk : 1 ≤ k) : jnt qs dp L k = [] := by
  refine List.eq_nil_iff_forall_not_mem.mpr fun o ho => ?_
  obtain ⟨o1, o2⟩ := jnt_mem.mp ho
  rw [deep_none R hl h2 o1 h] at o2
  simp at o2
  omega
theorem t_lright (n0 : Nat) {S : Store} (R : Rail qs nx dp) (hl : qs.length ≤ 99) {ls : List Nat} (hls : ∀ L ∈ ls, 1 ≤ L ∧ L ≤ 200) :
    Ok (callM Tt.T.prog (run Tt.T.prog (n0 + 9)) i__law_right [railD qs nx dp, arD qs, .list (ls.map natD)] [] [] S) (fun r S' => r = .bool true ∧ Fr [] S S') Mi.nx := by
  have T := R.T
  obtain ⟨M, m1, m2⟩ := wide_ex (qs.length + 1) (Nat.succ_pos _) dp
  generalize hd : railD qs nx dp = dd
  generalize ha : arD qs = aa
  refine ok_fn (fn := f__law_right) (ds := [dd, aa, .list (ls.map natD)]) rfl rfl ?_
  unfold f__law_right
  array_get_dec
  subst hd
  subst ha
  refine ok_fr (t_widest (n0 + 6) R hl m1 m2) fun S1 f1 => ?_
  refine ok_fr (t_depths (n0 + 4) R hl) fun S2 f2 => ?_
  refine ok_fr (t_diam (n0 := n0 + 7) R hl m1 m2) fun S3 f3 => ?_
  rw [call_as (fn := f_diameter) (ds := [railD qs nx dp]) rfl rfl rfl]
  refine ok_fr (t_diam (n0 := n0 + 7) R hl m1 m2) fun S4 f4 => ?_
  have hM : M < 100 := by
    obtain ⟨s, v, hs, hv, e⟩ := m1
    have := T.dplt s v hs hv
    omega
  refine repr_step (gds_all (w := 40) (u := 100) (fun x hx => by
    have hx : x = .int M := by simpa using hx
    rw [hx]
    exact gd_nat (by omega) (by decide)) (by simp)) (by decide) ?_
  refine ⟨_, rfl, ?_⟩
  have f14 := f1.trans (f2.trans (f3.trans f4))
  refine for_inv (fun rest η S' => ∃ (l : List Nat) (o3 o4 : Option D), (∀ L ∈ l, 1 ≤ L ∧ L ≤ 200) ∧ rest = l.map natD ∧ η = [some (railD qs nx dp), some (arD qs), some (.list (ls.map natD)), o3, o4, some (.int M), some (dpD qs dp)] ∧ Fr [] S S')
    ⟨ls, none, none, hls, rfl, rfl, f14⟩ ?_ ?_
  · rintro z ys η S5 ⟨l, o3, o4, hl5, hr, rfl, f5⟩
    cases l with
    | nil => cases hr
    | cons L l =>
      rw [List.map_cons] at hr
      obtain ⟨rfl, rfl⟩ := List.cons.inj hr
      obtain ⟨hL, hL2⟩ := hl5 L (by simp)
      refine ⟨_, rfl, ?_⟩
      try array_get_dec
      refine ok_fr (t_lenR n0 R hl hL) fun S6 f6 => ?_
      refine ⟨true, rfl, ?_⟩
      rw [if_neg (by simp)]
      refine ok_fr (t_trunk (n0 + 1) T (by omega) hL) fun S7 f7 => ?_
      have tw := trunk_wide R hl m1 m2 hL
      have g0 : gn (.tup []) := gn_tup gns_nil
      have e1 : eqOp S7 (.tup ((jnt qs dp L 2).map natD)) (.tup []) = some (decide (jnt qs dp L 2 = [])) := by
        rw [eq_gn (gn_jnt hl 2) g0]
        congr 1
        refine decide_eq_decide.mpr ⟨fun z => ?_, fun z => by rw [z]; rfl⟩
        injection z with z
        simpa using z
      have e2 : (!decide (jnt qs dp L 2 = [])) = decide (2 * (L : Int) ≤ (M : Int)) := by
        rw [← decide_not]
        exact decide_eq_decide.mpr (tw.trans ⟨fun h => by omega, fun h => by omega⟩)
      refine ⟨Nat.zero_le _, _, by rw [e1]; rfl, ?_, .bool false, ?_, false, rfl, ?_⟩
      · exact big_l (by decide) (by decide)
      · show Option.map (fun r => D.bool !r) (eqOp S7 (.bool (!decide (jnt qs dp L 2 = []))) (.bool (decide (2 * (L : Int) ≤ (M : Int))))) = _
        rw [e2, eqB]
        simp
      · rw [if_neg (by simp)]
        exact ⟨l, fun y hy => hl5 y (by simp [hy]), rfl, _, _, rfl, f5.trans (f6.trans f7)⟩
  · rintro η S5 ⟨l, o3, o4, hl5, hr, rfl, f5⟩
    try array_get_dec
    have e40 : (10000000000000000000000000000000000000000 : Int) = ((10000000000000000000000000000000000000000 : Nat) : Int) := rfl
    have eM : (M : Int) + 1 = ((M + 1 : Nat) : Int) := by push_cast; rfl
    rw [e40, eM]
    refine ⟨by decide, ?_⟩
    refine ok_fr (t_trunk (n0 + 1) T (by omega) (by decide)) fun S6 f6 => ?_
    rw [jnt_none R hl m2 (by omega) (by decide)]
    refine ok_fr (t_pivots (n0 + 1) T (by omega) (by omega)) fun S7 f7 => ?_
    rw [jnt_none R hl m2 (by omega) (by decide)]
    rw [call_as (fn := f_deep_branches) (ds := [railD qs nx dp, .int ((0 : Nat) : Int), .int ((M + 1 : Nat) : Int)]) rfl rfl rfl]
    refine ok_fr (t_deepB (n0 + 2) T (by omega) (L := M + 1) (m := 0) (Nat.succ_pos _) (by omega)) fun S8 f8 => ?_
    rw [deep_none R hl m2 (Nat.succ_pos _) (Nat.lt_succ_self _)]
    have gt : gn (.list [.tup [], .tup [], .tup []]) := gn_list ⟨[.tuple [], .tuple [], .tuple []], by simp [pyds, pyd], rfl, by decide, rfl⟩
    refine ⟨by decide, Nat.zero_le _, Nat.zero_le _, Nat.zero_le _, by decide, .bool true, ?_, rfl, f5.trans (f6.trans (f7.trans f8))⟩
    show Option.map D.bool (eqOp S8 (.list [.tup [], .tup [], .tup []]) (.list [.tup [], .tup [], .tup []])) = _
    rw [eq_gn gt gt]
    simp
end
end Mi
set_option Elab.async false
set_option linter.all false
set_option maxRecDepth 100000
namespace Mi
open PySem L2 Tt IsTree
section
variable {m : Nat} {nx dp : Nat → Nat → Nat}
theorem line_dist (R : Rail (lineL m) nx dp) {x v : Nat} (hx : x < m + 1) (hv : v < m + 1) : dp x v = (x - v) + (v - x) := by
  have T := R.T
  rw [lineL_len] at T
  refine T.dist_unique (s := x) (δ := fun v => (x - v) + (v - x)) hx (by show (x - x) + (x - x) = 0; omega) (fun v hv hne => ?_) (fun u w h => ?_) v hv
  · rcases Nat.lt_or_ge v x with q | q
    · exact ⟨v + 1, line_adj.mpr (.inl ⟨by omega, rfl⟩), by show (x - v) + (v - x) = (x - (v + 1)) + (v + 1 - x) + 1; omega⟩
    · exact ⟨v - 1, line_adj.mpr (.inr ⟨by omega, by omega⟩), by show (x - v) + (v - x) = (x - (v - 1)) + (v - 1 - x) + 1; omega⟩
  · show (x - u) + (u - x) ≤ (x - w) + (w - x) + 1
    rcases line_adj.mp h with ⟨_, h⟩ | ⟨_, h⟩ <;> omega
theorem line_nx (R : Rail (lineL m) nx dp) {x v : Nat} (hx : x < m + 1) (hv : v < m + 1) (hne : v ≠ x) : nx v x = if x < v then x + 1 else x - 1 := by
  have T := R.T
  rw [lineL_len] at T
  have h1 := T.nxadj v x hv hx (fun e => hne e.symm)
  have h2 := T.dpnx v x hv hx (fun e => hne e.symm)
  have h3 := T.nxlt v x hv hx
  rw [line_dist R hv hx, line_dist R hv h3] at h2
  rcases line_adj.mp h1 with ⟨_, h⟩ | ⟨_, h⟩
  · rw [h] at h2 ⊢
    rw [if_pos (by omega)]
  · rw [if_neg (by omega)]
    omega
theorem line_db (R : Rail (lineL m) nx dp) {x : Nat} (hx : x < m + 1) : Db (m + 1) nx dp 2 x ↔ 2 ≤ x ∧ x + 2 ≤ m := by
  constructor
  · rintro ⟨v, w, v1, w1, v2, w2, hne, v4, w4⟩
    rw [line_dist R hx v1] at v4
    rw [line_dist R hx w1] at w4
    rw [line_nx R hx v1 v2, line_nx R hx w1 w2] at hne
    by_cases a : x < v <;> by_cases b : x < w
    · rw [if_pos a, if_pos b] at hne
      exact absurd rfl hne
    · omega
    · omega
    · rw [if_neg a, if_neg b] at hne
      exact absurd rfl hne
  · rintro ⟨h1, h2⟩
    refine ⟨0, m, by omega, by omega, by omega, by omega, ?_, ?_, ?_⟩
    · rw [line_nx R hx (by omega) (by omega), line_nx R hx (by omega) (by omega), if_neg (by omega), if_pos (by omega)]
      omega
    · rw [line_dist R hx (by omega)]
      omega
    · rw [line_dist R hx (by omega)]
      omega
theorem line_trunk (R : Rail (lineL m) nx dp) (hm : m < 9) : jnt (lineL m) dp 2 2 = (List.range (m - 3)).map (2 + ·) := by
  have e : jnt (lineL m) dp 2 2 = (List.range (m + 1)).filter fun x => decide (2 ≤ x ∧ x + 2 ≤ m) := by
    unfold jnt
    rw [lineL_len]
    refine List.filter_congr fun x hx => ?_
    have hx := List.mem_range.mp hx
    refine decide_eq_decide.mpr ?_
    have := db_iff (L := 2) R (by rw [lineL_len]; omega) (m := x) (by rw [lineL_len]; exact hx)
    rw [lineL_len] at this
    exact this.trans (line_db R hx)
  rw [e]
  have key : ∀ m, m < 9 → ((List.range (m + 1)).filter fun x => decide (2 ≤ x ∧ x + 2 ≤ m)) = (List.range (m - 3)).map (2 + ·) := by decide +kernel
  exact key m hm
theorem star_pivots (R : Rail (starL m) nx dp) (hm : m < 9) : jnt (starL m) dp 1 3 = if 3 ≤ m then [0] else [] := by
  have e : jnt (starL m) dp 1 3 = (List.range (m + 1)).filter fun x => decide (3 ≤ (rowOf (starL m) x).length) := by
    unfold jnt
    rw [starL_len]
    refine List.filter_congr fun x hx => ?_
    have e1 : (deepL (starL m) dp 1 x).length = (rowOf (starL m) x).length := by
      obtain ⟨sp, _⟩ := srt_spec (row_line (qs := starL m) (by rw [starL_len]; omega) x)
      rw [← sp.length_eq]
      unfold deepL
      rw [List.filter_eq_self.mpr (fun o _ => by simp)]
    rw [e1]
  rw [e]
  have key : ∀ m, m < 9 → ((List.range (m + 1)).filter fun x => decide (3 ≤ (rowOf (starL m) x).length)) = if 3 ≤ m then [0] else [] := by decide +kernel
  exact key m hm
end
end Mi
set_option Elab.async false
set_option linter.all false
set_option maxRecDepth 100000
namespace Mi
open PySem L2 Tt
local macro_rules | `(tactic| array_get_dec) => `(tactic| simp only [wipeD, ok_exs, ok_exs0, go_next, go_ret, go_brk, go_cont, ok_sex, ok_ret, ok_set, ok_par, ok_seti, ok_seta, ok_site, ok_for, ok_pass, ok_brk, ok_cont, ok_v, ok_c, ok_g, ok_tup, ok_list, ok_mlist, ok_mdict, ok_mdictT, ok_edict, ok_bin, ok_mulm, ok_addm, ok_rngm, ok_neg, ok_cmp, ok_eqE, ok_cmp2, ok_isN, ok_isB, ok_not, ok_eite, ok_ix, ok_sl, ok_slm, ok_vals, ok_rev, ok_attr, ok_cattr, ok_call, ok_bc, ok_isi, ok_meth, ok_bm, ok_cm, ok_mk, ok_mkv, ok_mkx, ok_cs, ok_cmv, ok_lc2, ok_raise, ok_try, ok_fz, ok_lc, ok_evs0, ok_evs1, ok_evsS, ok_and, ok_or, ok_and1, ok_and2, ok_or1, ok_or2, ok_t0, ok_t1, ok_bind, ok_truth, b_add, b_sub, b_mul, b_fdiv, b_mod, b_pow, b_tup, b_list, ite_some, c_lt, c_le, c_gt, c_ge, c_eq, c_ne, eq_int, eq_str, Option.map_some, ix_list, ix_tup, len_list, len_tup, asg_n, asg_t, asgs_0, asgs_1, List.map_cons, List.map_nil, List.length_cons, List.length_nil, List.replicate_succ, List.replicate_zero, List.cons_append, List.nil_append, List.append_nil, Nat.reduceAdd, Nat.reduceSub, Nat.reduceLT, Nat.zero_add, Nat.lt_add_one, Nat.zero_lt_succ, Nat.succ_pos, List.set_cons_zero, List.set_cons_succ, List.getElem?_cons_zero, List.getElem?_cons_succ, Option.bind_some, Option.some.injEq, D.bool.injEq, D.int.injEq, exists_eq_left', exists_eq_left, exists_eq_right, exists_eq_right', exists_and_left, and_true, true_and, if_true, ne_eq, reduceCtorEq, not_false_eq_true, implies_true, if_pos, partE, exists_const, and_assoc, Prod.mk.injEq, if_false, Int.reduceToNat, Int.reducePow, Nat.reducePow, Int.reduceLT, Int.reduceLE, Int.reduceNeg, Int.reduceAdd, Int.reduceSub, Int.reduceMul, decide_eq_true_eq])
theorem t_begin (n0 : Nat) (S : Store) (ns : List Int) (hn : ns.length ≤ 63) : Ok (callM Tt.T.prog (run Tt.T.prog (n0 + 1)) i__law_begin [.list (ns.map .int)] [] [] S) (fun r S' => r = .ref S.length ∧ Dr S' S.length 0 ∧ Fr [] S S') Mi.nx := by
  generalize hd : D.list (ns.map .int) = dd
  refine ok_fn (fn := f__law_begin) (ds := [dd]) rfl rfl ?_
  unfold f__law_begin
  subst hd
  array_get_dec
  have hl : (ns.map D.int).length + 1 ≤ line := by rw [List.length_map]; exact Nat.le_trans (show ns.length + 1 ≤ 64 by omega) (by decide)
  refine ⟨by decide, hl, dkv (ns ++ [0]) 0 0 0, ?_, get_new, ⟨ns ++ [0], 0, 0, 0, get_set get_new, by simp, by simp; omega, by omega, by omega, by omega, by omega⟩, (Fr.app _ _ _).setNew (Nat.le_refl _)⟩
  unfold dkv
  rw [List.map_append]
  rfl
/-- min(a, b + length) -/
theorem turns (a b : Nat) (ns : List Int) : ∃ m : Nat, m ≤ a ∧ ∀ S, bfn BFn.min2 S [D.int a, D.int ((b : Int) + ((ns.map D.int).length : Int))] = some (.int m) := by
  show ∃ m : Nat, m ≤ a ∧ ∀ S : Store, some (D.int (if (b : Int) + ((ns.map D.int).length : Int) < (a : Int) then (b : Int) + ((ns.map D.int).length : Int) else (a : Int))) = some (.int m)
  by_cases hc : (b : Int) + ((ns.map D.int).length : Int) < (a : Int)
  · rw [if_pos hc]
    refine ⟨((b : Int) + ((ns.map D.int).length : Int)).toNat, by omega, fun S => ?_⟩
    rw [Int.toNat_of_nonneg (by omega)]
  · rw [if_neg hc]
    exact ⟨a, by omega, fun S => rfl⟩
end Mi
set_option Elab.async false
set_option linter.all false
set_option maxRecDepth 100000
namespace Mi
open PySem L2 Tt IsTree
local macro_rules | `(tactic| array_get_dec) => `(tactic| simp only [wipeD, ok_exs, ok_exs0, go_next, go_ret, go_brk, go_cont, ok_sex, ok_ret, ok_set, ok_par, ok_seti, ok_seta, ok_site, ok_for, ok_pass, ok_brk, ok_cont, ok_v, ok_c, ok_g, ok_tup, ok_list, ok_mlist, ok_mdict, ok_mdictT, ok_edict, ok_bin, ok_mulm, ok_addm, ok_rngm, ok_neg, ok_cmp, ok_eqE, ok_cmp2, ok_isN, ok_isB, ok_not, ok_eite, ok_ix, ok_sl, ok_slm, ok_vals, ok_rev, ok_attr, ok_cattr, ok_call, ok_bc, ok_isi, ok_meth, ok_bm, ok_cm, ok_mk, ok_mkv, ok_mkx, ok_cs, ok_cmv, ok_lc2, ok_raise, ok_try, ok_fz, ok_lc, ok_evs0, ok_evs1, ok_evsS, ok_and, ok_or, ok_and1, ok_and2, ok_or1, ok_or2, ok_t0, ok_t1, ok_bind, ok_truth, b_add, b_sub, b_mul, b_fdiv, b_mod, b_pow, b_tup, b_list, ite_some, c_lt, c_le, c_gt, c_ge, c_eq, c_ne, eq_int, eq_str, Option.map_some, ix_list, ix_tup, len_list, len_tup, asg_n, asg_t, asgs_0, asgs_1, List.map_cons, List.map_nil, List.length_cons, List.length_nil, List.replicate_succ, List.replicate_zero, List.cons_append, List.nil_append, List.append_nil, Nat.reduceAdd, Nat.reduceSub, Nat.reduceLT, Nat.zero_add, Nat.lt_add_one, Nat.zero_lt_succ, Nat.succ_pos, List.set_cons_zero, List.set_cons_succ, List.getElem?_cons_zero, List.getElem?_cons_succ, Option.bind_some, Option.some.injEq, D.bool.injEq, D.int.injEq, exists_eq_left', exists_eq_left, exists_eq_right, exists_eq_right', exists_and_left, and_true, true_and, if_true, ne_eq, reduceCtorEq, not_false_eq_true, implies_true, if_pos, partE, exists_const, and_assoc, Prod.mk.injEq, if_false, Int.reduceToNat, Int.reducePow, Nat.reducePow, Int.reduceLT, Int.reduceLE, Int.reduceNeg, Int.reduceAdd, Int.reduceSub, Int.reduceMul, decide_eq_true_eq])
@[irreducible] def cTail : List St := [.for_ .rng2 [(.c (.int 1)), (.c (.int 10))] (.n 4) [.par [5, 6] [(.cm 0 "line" [(.v 4)] [] []), (.cm 0 "star" [(.v 4)] [] [])], .ite (.cmp .ne (.list [(.call 30 [(.v 5)] [] []), (.call 30 [(.v 6)] [] [])]) (.list [(.bin .sub (.v 4) (.c (.int 1))), (.bc .min2 [(.bin .sub (.v 4) (.c (.int 1))), (.c (.int 2))])])) [.ret (.c (.bool false))] [], .ite (.or_ [(.cmp .ne (.call 34 [(.v 5), (.c (.int 2))] [] []) (.bc .tupRange [(.c (.int 2)), (.bin .sub (.v 4) (.c (.int 2)))])), (.cmp .ne (.call 35 [(.v 6), (.c (.int 1))] [] []) (.ite (.cmp .gt (.v 4) (.c (.int 3))) (.tup [(.c (.int 0))]) (.tup [])))]) [.ret (.c (.bool false))] []],
  .ret (.c (.bool true))]
theorem t_cTail {S : Store} {o0 o1 o2 o3 o4 o5 o6 : Option D} {Q : Fl → Env → Store → Prop} (k : ∀ η S', Q (.ret (.bool true)) η S') :
    OkX (exs Tt.T.prog (run Tt.T.prog 39) cTail [o0, o1, o2, o3, o4, o5, o6] S) Q (fun e η S => Mi.nx e S) := by
  unfold cTail
  array_get_dec
  refine ⟨_, rng2_items (by decide) (by decide) (by decide) (by decide) (by decide), ?_⟩
  refine for_inv (fun rest η S' => ∃ (j : Nat) (o4 o5 o6 : Option D), j ≤ 9 ∧ rest = (List.range' (j + 1) (9 - j)).map (fun i : Nat => D.int i) ∧ η = [o0, o1, o2, o3, o4, o5, o6])
    ⟨0, o4, o5, o6, Nat.zero_le _, rfl, rfl⟩ ?_ ?_
  · rintro x ys η S4 ⟨j, o4, o5, o6, hj, hr, rfl⟩
    have hlt : j < 9 := by
      rcases Nat.lt_or_ge j 9 with q | q
      · exact q
      · rw [show 9 - j = 0 by omega] at hr; cases hr
    rw [show 9 - j = (9 - (j + 1)) + 1 by omega, List.range'_succ, List.map_cons] at hr
    obtain ⟨rfl, rfl⟩ := List.cons.inj hr
    obtain ⟨n1, p1, R1⟩ := Rail.of_perm (line_grown j) (List.Perm.refl _)
    obtain ⟨n2, p2, R2⟩ := Rail.of_perm (star_grown j) (List.Perm.refl _)
    have hl1 := lineL_len j
    have hl2 := starL_len j
    refine ⟨_, rfl, ?_⟩
    try array_get_dec
    refine ⟨i_Railway_line, rfl, ?_⟩
    refine ok_fr (t_line (n0 := 33) (by omega) R1) fun S5 f5 => ?_
    refine ⟨i_Railway_star, rfl, ?_⟩
    refine ok_fr (t_star (n0 := 33) (by omega) R2) fun S6 f6 => ?_
    obtain ⟨s1, s2⟩ := star_dp R2
    refine ok_fr (t_diam (n0 := 38) (M := j) R1 (by omega) ⟨0, j, by omega, by omega, line_dp R1 (by omega)⟩ (fun s v hs hv => by
      rw [hl1] at hs hv
      have := R1.T.dplt s v (by rw [hl1]; exact hs) (by rw [hl1]; exact hv)
      rw [hl1] at this
      omega)) fun S7 f7 => ?_
    refine ok_fr (t_diam (n0 := 38) (M := min 2 j) R2 (by omega) (by rw [hl2]; exact s1) (by rw [hl2]; exact s2)) fun S8 f8 => ?_
    have eA : (((j + 1 : Nat) : Int) - 1) = (j : Int) := by omega
    rw [eA]
    have em : ∀ S, bfn .min2 S [.int (j : Int), .int 2] = some (.int ((min 2 j : Nat) : Int)) := fun S => by
      show some (D.int (if (2 : Int) < (j : Int) then (2 : Int) else (j : Int))) = _
      by_cases q : (2 : Int) < (j : Int)
      · rw [if_pos q, Nat.min_eq_left (by omega)]
        rfl
      · rw [if_neg q, Nat.min_eq_right (by omega)]
    have l2 : 2 ≤ line := by rw [show line = 16777216 from PySem.sizeLine_eq]; decide
    have l1 : 1 ≤ line := by rw [show line = 16777216 from PySem.sizeLine_eq]; decide
    have g1 : gn (.list [.int (j : Int), .int ((min 2 j : Nat) : Int)]) := gn_list (gns_nats (l := [j, min 2 j]) fun v hv => by
      have : v = j ∨ v = min 2 j := by simpa using hv
      rcases this with rfl | rfl <;> omega)
    refine ⟨l2, _, em _, l2, .bool false, by rw [eq_gn g1 g1]; simp, false, rfl, ?_⟩
    rw [if_neg (by simp)]
    refine ok_fr (t_trunk 32 R1.T (by omega) (L := 2) (by decide)) fun S9 f9 => ?_
    rw [line_trunk R1 hlt]
    have et : ∀ S, bfn .tupRange S [.int 2, .int (((j + 1 : Nat) : Int) - 2)] = some (.tup (((List.range (j - 3)).map (2 + ·)).map natD)) := fun S => by
      show (if rangeOk 2 (((j + 1 : Nat) : Int) - 2) then some (D.tup (rangeD 2 (((j + 1 : Nat) : Int) - 2))) else none) = _
      rw [if_pos (by unfold rangeOk; simp only [Bool.and_eq_true, decide_eq_true_eq]; omega)]
      unfold rangeD
      rw [List.map_map, show ((((j + 1 : Nat) : Int) - 2) - 2).toNat = j - 3 by omega]
      congr 2
    have g2 : gn (.tup (((List.range (j - 3)).map (2 + ·)).map natD)) := gn_tup (gns_nats fun v hv => by
      obtain ⟨i, hi, rfl⟩ := List.mem_map.mp hv
      have := List.mem_range.mp hi
      omega)
    refine ⟨_, et _, .bool false, by rw [eq_gn g2 g2]; simp, false, rfl, ?_⟩
    rw [if_neg (by simp)]
    refine ok_fr (t_pivots 32 R2.T (by omega) (L := 1) (by decide)) fun S10 f10 => ?_
    rw [star_pivots R2 hlt]
    by_cases q : 3 ≤ j
    · rw [if_pos (by omega), if_pos q]
      have g3 : gn (.tup (([0] : List Nat).map natD)) := gn_tup (gns_nats (l := [0]) (by simp))
      refine ⟨l1, .bool false, ?_, false, rfl, ?_⟩
      · rw [show D.tup [D.int 0] = D.tup (([0] : List Nat).map natD) from rfl, eq_gn g3 g3]
        simp
      · rw [if_neg (by simp)]
        exact ⟨j + 1, by omega, rfl, _, _, _, rfl⟩
    · rw [if_neg (by omega), if_neg q]
      have g3 : gn (.tup []) := gn_tup gns_nil
      refine ⟨Nat.zero_le _, .bool false, ?_, false, rfl, ?_⟩
      · rw [show D.tup (([] : List Nat).map natD) = D.tup [] from rfl, eq_gn g3 g3]
        simp
      · rw [if_neg (by simp)]
        exact ⟨j + 1, by omega, rfl, _, _, _, rfl⟩
  · rintro η S4 ⟨j, o4, o5, o6, hj, hr, rfl⟩
    try array_get_dec
    exact k _ _
theorem hlaw (ns : List Int) (hn : ns.length ≤ 63) : ∃ S', callM Tt.T.prog (run Tt.T.prog 40) 0 [.list (ns.map .int)] [] [] [] = .ok (.bool true) S' := by
  suffices h : Ok (callM Tt.T.prog (run Tt.T.prog (39 + 1)) i_law [.list (ns.map .int)] [] [] []) (fun r S' => r = .bool true) Mi.nx by
    obtain ⟨a, S', e, h⟩ := h.get
    exact ⟨S', by rw [← h]; exact e⟩
  generalize hS : ([] : Store) = S
  generalize hd : D.list (ns.map .int) = dd
  refine ok_fn (fn := f_law) (ds := [dd]) rfl rfl ?_
  unfold f_law
  subst hd
  with_unfolding_all change OkX (exs _ _ (_ :: _ :: _ :: _ :: cTail) _ _) _ _
  array_get_dec
  refine (t_begin 38 S ns hn).mono fun r S1 q => ?_
  obtain ⟨rfl, hD, f1⟩ := q
  obtain ⟨m, hm, em⟩ : ∃ m : Nat, m ≤ 5 ∧ ∀ S, bfn .min2 S [.int 5, .int (2 + ((ns.map D.int).length : Int) / 3)] = some (.int (m : Int)) := by
    have h0 : (0 : Int) ≤ ((ns.map D.int).length : Int) / 3 := Int.ediv_nonneg (by omega) (by decide)
    generalize ((ns.map D.int).length : Int) / 3 = z at *
    refine ⟨(min 5 (2 + z)).toNat, by omega, fun S => ?_⟩
    show some (D.int (if (2 + z) < (5 : Int) then (2 + z) else (5 : Int))) = _
    congr 2
    split <;> omega
  refine ⟨_, em _, _, rng1_items (by omega) (by omega), ?_⟩
  rw [range0]
  refine for_inv (fun rest η S' => ∃ (k : Nat) (o2 o3 o4 o5 o6 : Option D), rest.length + k = m ∧ η = [some (D.list (List.map D.int ns)), some (D.ref S.length), o2, o3, o4, o5, o6] ∧ Dr S' S.length (500 * k))
    ⟨0, none, none, none, none, none, by simp, rfl, hD.le (by simp)⟩ ?_ ?_
  · rintro x ys η S4 ⟨k, o2, o3, o4, o5, o6, hk, rfl, h4⟩
    simp only [List.length_cons] at hk
    refine ⟨_, rfl, ?_⟩
    try array_get_dec
    refine (t_tracks 36 S.length _ 16 S4 h4 (by omega) (by omega) (by decide) (by omega)).mono fun r S6 q => ?_
    obtain ⟨ps, j, hg, hlb, hj, rfl, h6, f6⟩ := q
    have hp := turn_perm ps j
    have hlen := hp.length_eq
    obtain ⟨nx, dp, R⟩ := Rail.of_perm hg hp
    generalize hqs : ps.drop j ++ ps.take j = qs at *
    refine ⟨i_Railway_of, rfl, ?_⟩
    refine ok_fr (t_of 34 S6 qs R.T (by omega) R.nd R.sw R.rn) fun S7 f7 => ?_
    refine ok_fr (t_around 38 S7 qs R.lt (by omega)) fun S8 f8 => ?_
    have el : ∀ S, bfn .listRange S [.int 1, .int (((qs.map pairD).length : Int) + 2)] = some (.list (((List.range (qs.length + 1)).map (1 + ·)).map natD)) := fun S => by
      rw [List.length_map]
      show (if rangeOk 1 ((qs.length : Int) + 2) then some (D.list (rangeD 1 ((qs.length : Int) + 2))) else none) = _
      rw [if_pos (by unfold rangeOk; simp only [Bool.and_eq_true, decide_eq_true_eq]; omega)]
      unfold rangeD
      rw [List.map_map, show (((qs.length : Int) + 2) - 1).toNat = qs.length + 1 by omega]
      congr 2
    refine ⟨_, len_tup, _, rfl, _, el _, ?_⟩
    refine ok_fr (t_lright 30 R (by omega) (fun L hL => by
      obtain ⟨i, hi, rfl⟩ := List.mem_map.mp hL
      have := List.mem_range.mp hi
      omega)) fun S9 f9 => ?_
    refine ⟨true, rfl, ?_⟩
    rw [if_neg (by simp)]
    exact ⟨k + 1, by omega, _, _, _, _, _, rfl, (((h6.fr f7 (by simp)).fr f8 (by simp)).fr f9 (by simp)).le (by push_cast; omega)⟩
  · rintro η S4 ⟨k, o2, o3, o4, o5, o6, hk, rfl, h4⟩
    have hkm : k = m := by simpa using hk
    subst hkm
    try array_get_dec
    refine (t_tracks 36 S.length _ 40 S4 h4 (by omega) (by omega) (by decide) (by omega)).mono fun r S6 q => ?_
    obtain ⟨ps, j, hg, hlb, hj, rfl, h6, f6⟩ := q
    have hp := turn_perm ps j
    have hlen := hp.length_eq
    obtain ⟨nx, dp, R⟩ := Rail.of_perm hg hp
    generalize hqs : ps.drop j ++ ps.take j = qs at *
    refine ⟨i_Railway_of, rfl, ?_⟩
    refine ok_fr (t_of 34 S6 qs R.T (by omega) R.nd R.sw R.rn) fun S7 f7 => ?_
    refine ok_fr (t_around 38 S7 qs R.lt (by omega)) fun S8 f8 => ?_
    have h8 := (h6.fr f7 (by simp)).fr f8 (by simp)
    have hd8 := h8.lt
    refine ⟨_, rng1_items (b := ((3 : Nat) : Int)) (by omega) (by omega), ?_⟩
    rw [range0]
    refine lc_inv (fun rest acc S' => ∃ vs : List Nat, rest.length + vs.length = 3 ∧ acc = vs.map natD ∧ (∀ v ∈ vs, 1 ≤ v ∧ v ≤ 200) ∧ Dr S' S.length (500 * k + 400 + vs.length) ∧ S8.length < S'.length)
      ⟨[], by simp, rfl, by simp, (h8.fr (Fr.app [] S8 _) (by simp)).le (by simp), by simp⟩ (fun x ys acc S' hI hn => ?_) fun acc S' hI hn => ?_
    · obtain ⟨vs, hv, rfl, hvs, h9, hlt⟩ := hI
      simp only [List.length_cons] at hv
      refine ⟨by rw [List.length_map, show line = 16777216 from PySem.sizeLine_eq]; omega, ?_⟩
      rw [ok_lcT]
      refine ⟨_, rfl, ?_⟩
      array_get_dec
      refine (t_next 37 S.length _ 12 S' h9 (by omega) (by omega) (by omega)).mono fun r S10 q => ?_
      obtain ⟨v, rfl, v0, v1, h10, f10⟩ := q
      obtain ⟨v, rfl⟩ : ∃ w : Nat, v = (w : Int) := ⟨v.toNat, by omega⟩
      have hlt2 := Nat.lt_of_lt_of_le hlt f10.1
      refine ⟨.int ((1 + v : Nat) : Int), ?_, f10.get hn (by simp; omega), vs ++ [1 + v], by simp; omega, by rw [List.map_append]; rfl, fun w hw => ?_, ?_, by simpa using hlt2⟩
      · show some (D.int (1 + (v : Int))) = some (D.int ((1 + v : Nat) : Int))
        congr 2
      · rcases List.mem_append.mp hw with q | q
        · exact hvs w q
        · have : w = 1 + v := by simpa using q
          omega
      · exact (h10.le (by simp; omega)).fr (Fr.set (ds := [S8.length]) (by simp)) (by simp; omega)
    · obtain ⟨vs, hv, rfl, hvs, h9, hlt⟩ := hI
      refine ok_fr (t_lright 30 R (by omega) hvs) fun S9 f9 => ?_
      refine ⟨true, rfl, ?_⟩
      rw [if_neg (by simp)]
      exact t_cTail fun η S' => rfl
end Mi
set_option maxRecDepth 100000 in
set_option maxHeartbeats 0 in
theorem PySem.Challenge.cw_treetrain_k13_whole_trunks_and_pivots_holds : PySem.Challenge.rw_treetrain_k13_whole_trunks_and_pivots.Holds := by
  exact Tt.holds Mi.hlaw
