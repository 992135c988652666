import PyProof.Rows.All
import HandS.ForMost
import HandS.Lambda
import HandS.TupAny
import HandS.TupMul
import HandS.Style
import HandS.Wide
import HandS.DictTup
import HandS.Deep
import HandS.IsInst
import HandS.NoneIn
import HandS.SortInts
import HandS.Text
import HandS.More
import HandS.ExcOwn
import HandS.Comp
import HandS.Zip
import HandS.Iter
import KE.GoesEnum
import KE.GoesMore
import KE.KDictZip
import KE.KItemsList
import KE.KTurns
import HandS.ListItems
import HandS.Small
import HandS.RaiseMore
import HandS.Defaults
import HandS.HeadHook4
import HandS.HeadWalk
import HandS.NestedK
import HandS.ExcIs
import HandS.SetFor
import KE.KStateDown
import HandS.Head0
import HandS.Head1
import HandS.Head2
import HandS.HeadEnd
import HandS.HeadHook1
import HandS.HeadHook2
import PySem.Challenge.RW_everymeasure_k88_whole_reports_of_breaki
set_option Elab.async false
set_option linter.all false
set_option maxRecDepth 100000
/-! A small language of its own (core), its evaluator by plain data. -/
namespace Ev
open PySem
abbrev D := PyData
abbrev Key := L2.Key
/-- what a name holds: nothing, a thing that never changes, an own list, an own list of own lists, own dicts, an own object -/
inductive Slot where
  | emp
  | dat (d : D)
  | lst (ds : List D)
  | rows (dss : List (List D))
  | dK (kvs : List (Key × D))
  | dT (kvs : List (List Key × D))
  | obj (C : Str) (fs : List (Str × D))
  | scr (ns : List Int)
abbrev Sts := List Slot
/-- what an expression gives: data, a new own thing, the thing that a name holds, a list within an own list -/
inductive RV where
  | dat (d : D)
  | own (s : Slot)
  | loc (i : Nat)
  | inn (ds : List D)
inductive Res (α : Type) where
  | ok (a : α) (δ : Sts)
  | exc (c : Str) (δ : Sts)
  | stuck
inductive FRes where
  | ret (r : RV) (back : Sts)
  | exc (c : Str) (back : Sts)
  | stuck
inductive Flow where
  | next (δ : Sts)
  | brk (δ : Sts)
  | cnt (δ : Sts)
  | ret (r : RV) (δ : Sts)
  | exc (c : Str) (δ : Sts)
  | stuck
def Res.bind {α β : Type} : Res α → (α → Sts → Res β) → Res β
  | .ok a δ, f => f a δ
  | .exc c δ, _ => .exc c δ
  | .stuck, _ => .stuck
def Res.flow {α : Type} : Res α → (α → Sts → Flow) → Flow
  | .ok a δ, f => f a δ
  | .exc c δ, _ => .exc c δ
  | .stuck, _ => .stuck
def Res.ofOpt {α : Type} (o : Option α) (δ : Sts) : Res α := match o with
  | some a => .ok a δ
  | none => .stuck

/-! ### data -/
abbrev eqOk (d : D) : Bool := SeqAt.shaped d
/-- the thing as data, for good -/
def frz : Slot → Option D
  | .dat d => some d
  | .lst ds => some (.list ds)
  | .rows dss => some (.list (dss.map PyData.list))
  | _ => none
def getS (δ : Sts) (i : Nat) : Slot := δ.getD i .emp
/-- the value for good: the name's thing is frozen -/
def settle : RV → Sts → Res D
  | .dat d, δ => .ok d δ
  | .own s, δ => Res.ofOpt (frz s) δ
  | .loc i, δ => match getS δ i with
    | .dat d => .ok d δ
    | s => match frz s with
      | some d => .ok d (δ.set i (.dat d))
      | none => .stuck
  | .inn _, _ => .stuck
/-- the thing as it stands -/
def view : RV → Sts → Slot
  | .dat d, _ => .dat d
  | .own s, _ => s
  | .loc i, δ => getS δ i
  | .inn ds, _ => .lst ds
/-- the thing as data, as it stands -/
def dataOf (s : Slot) : Option D := frz s
def seqOf : Slot → Option (List D)
  | .dat (.list ds) => some ds
  | .dat (.tuple ds) => some ds
  | .lst ds => some ds
  | _ => none
def intOf : Slot → Option Int
  | .dat (.int i) => some i
  | _ => none
def boolOf : Slot → Option Bool
  | .dat (.bool b) => some b
  | _ => none
def strOf : Slot → Option Str
  | .dat (.str x) => some x
  | _ => none
def intsOf : List D → Option (List Int)
  | [] => some []
  | .int i :: r => (intsOf r).map (i :: ·)
  | _ :: _ => none
def boolsOf : List D → Option (List Bool)
  | [] => some []
  | .bool i :: r => (boolsOf r).map (i :: ·)
  | _ :: _ => none
def line : Nat := 16777216
def okLen (n : Nat) : Bool := Nat.ble n line

/-! ### operators -/
inductive Op where
  | add | sub | mul | fdiv | mod | pow
  deriving DecidableEq
inductive Cmp where
  | eq | ne | lt | le | gt | ge | isin | notin | isNone | notNone | is | isnot
  deriving DecidableEq
def mulOk (i j : Int) : Bool := (decide (-(2 ^ 64) < i) && decide (i < 2 ^ 64)) || (decide (-(2 ^ 64) < j) && decide (j < 2 ^ 64))
def repL {α : Type} (ds : List α) (k : Int) : List α := (List.replicate k.toNat ds).flatten
def opV (op : Op) (x y : Slot) : Option RV := match op with
  | .add => match x, y with
    | .dat (.int i), .dat (.int j) => some (.dat (.int (i + j)))
    | .dat (.str a), .dat (.str b) => if okLen (a.length + b.length) then some (.dat (.str (a ++ b))) else none
    | .dat (.tuple a), .dat (.tuple b) => if okLen (a.length + b.length) then some (.dat (.tuple (a ++ b))) else none
    | .dat (.list a), .dat (.list b) => if okLen (a.length + b.length) then some (.own (.lst (a ++ b))) else none
    | .lst a, .dat (.list b) => if okLen (a.length + b.length) then some (.own (.lst (a ++ b))) else none
    | .dat (.list a), .lst b => if okLen (a.length + b.length) then some (.own (.lst (a ++ b))) else none
    | .lst a, .lst b => if okLen (a.length + b.length) then some (.own (.lst (a ++ b))) else none
    | _, _ => none
  | .sub => match x, y with
    | .dat (.int i), .dat (.int j) => some (.dat (.int (i - j)))
    | _, _ => none
  | .mul => match x, y with
    | .dat (.int i), .dat (.int j) => if mulOk i j then some (.dat (.int (i * j))) else none
    | .dat (.tuple a), .dat (.int k) => if !a.isEmpty && decide (1 ≤ k) && decide (k ≤ 1000) && Nat.ble a.length 1000 then some (.dat (.tuple (repL a k))) else none
    | .dat (.list a), .dat (.int k) => if decide (-(2 ^ 63) ≤ k) && decide (k < 2 ^ 63) && okLen (a.length * k.toNat) then some (.own (.lst (repL a k))) else none
    | .lst a, .dat (.int k) => if decide (-(2 ^ 63) ≤ k) && decide (k < 2 ^ 63) && okLen (a.length * k.toNat) then some (.own (.lst (repL a k))) else none
    | _, _ => none
  | .fdiv => match x, y with
    | .dat (.int i), .dat (.int j) => if decide (0 < j) && decide (j < 2 ^ 200) then some (.dat (.int (i / j))) else none
    | _, _ => none
  | .mod => match x, y with
    | .dat (.int i), .dat (.int j) => if decide (0 < j) then some (.dat (.int (i % j))) else none
    | _, _ => none
  | .pow => match x, y with
    | .dat (.int i), .dat (.int j) => if decide (0 ≤ j) && decide (j ≤ 1000) && decide (i.natAbs < 2 ^ 64) then some (.dat (.int (i ^ j.toNat))) else none
    | _, _ => none
def flatD : D → Bool
  | .none => true
  | .bool _ => true
  | .int _ => true
  | .str _ => true
  | _ => false
def keyOf : D → Option Key
  | .int i => some (.inl i)
  | .str x => some (.inr x)
  | _ => none
def keysOf : List D → Option (List Key)
  | [] => some []
  | d :: r => match keyOf d, keysOf r with
    | some k, some ks => some (k :: ks)
    | _, _ => none
def lookA {κ : Type} [DecidableEq κ] (kvs : List (κ × D)) (k : κ) : Option D := match kvs with
  | [] => none
  | (k', d) :: r => if k' = k then some d else lookA r k
def putA {κ : Type} [DecidableEq κ] (kvs : List (κ × D)) (k : κ) (d : D) : List (κ × D) :=
  if (kvs.any fun kv => decide (kv.1 = k)) = true then kvs.map (fun kv => if kv.1 = k then (kv.1, d) else kv) else kvs ++ [(k, d)]
/-- x in y -/
def inV (x y : Slot) : Option Bool := match y with
  | .dK kvs => match x with
    | .dat d => (keyOf d).map fun k => (lookA kvs k).isSome
    | _ => none
  | .dT kvs => match x with
    | .dat (.tuple ds) => (keysOf ds).map fun k => (lookA kvs k).isSome
    | _ => none
  | .dat (.tuple ds) => match x with
    | .dat d => if flatD d && ds.all flatD then some (ds.any fun z => PyData.eqv z d) else none
    | _ => none
  | .dat (.list ds) => match x with
    | .dat d => if eqOk d && eqOk (.list ds) then some (ds.any fun z => PyData.eqv z d) else none
    | _ => none
  | .lst ds => match x with
    | .dat d => if eqOk d && eqOk (.list ds) then some (ds.any fun z => PyData.eqv z d) else none
    | _ => none
  | _ => none
def eqV (x y : Slot) : Option Bool := match dataOf x, dataOf y with
  | some a, some b => if eqOk a && eqOk b then some (PyData.eqv a b) else none
  | _, _ => none
def isV (x y : Slot) : Option Bool := match y with
  | .dat (.bool b) => match x with
    | .dat (.bool a) => some (a == b)
    | .dat _ => some false
    | .lst _ => some false
    | _ => none
  | _ => none
def isNoneV (x : Slot) : Option Bool := match x with
  | .emp => none
  | .dat .none => some true
  | _ => some false
def ltI (x y : Slot) (p : Int → Int → Bool) : Option Bool := match x, y with
  | .dat (.int i), .dat (.int j) => some (p i j)
  | _, _ => none
def cmpV (op : Cmp) (x y : Slot) : Option Bool := match op with
  | .eq => eqV x y
  | .ne => (eqV x y).map (!·)
  | .lt => ltI x y fun i j => decide (i < j)
  | .le => ltI x y fun i j => decide (i ≤ j)
  | .gt => ltI x y fun i j => decide (j < i)
  | .ge => ltI x y fun i j => decide (j ≤ i)
  | .isin => inV x y
  | .notin => (inV x y).map (!·)
  | .isNone => (match y with
    | .dat .none => isNoneV x
    | _ => none)
  | .notNone => (match y with
    | .dat .none => (isNoneV x).map (!·)
    | _ => none)
  | .is => isV x y
  | .isnot => (isV x y).map (!·)
/-- truth -/
def truV (x : Slot) : Option Bool := match x with
  | .dat .none => some false
  | .dat (.bool b) => some b
  | .dat (.int i) => some (i != 0)
  | .dat (.list ds) => some (!ds.isEmpty)
  | .dat (.tuple ds) => some (!ds.isEmpty)
  | .lst ds => some (!ds.isEmpty)
  | _ => none
/-- a[i] -/
def subV (x i : Slot) : Option RV := match x with
  | .dat (.list ds) => match i with
    | .dat (.int k) => (L2.atI ds k).map .dat
    | _ => none
  | .dat (.tuple ds) => match i with
    | .dat (.int k) => (L2.atI ds k).map .dat
    | _ => none
  | .lst ds => match i with
    | .dat (.int k) => (L2.atI ds k).map .dat
    | _ => none
  | .dat (.str z) => match i with
    | .dat (.int k) => if okLen z.length then (L2.atI z.cps.toList k).map fun c => .dat (.str ⟨#[c]⟩) else none
    | _ => none
  | .rows dss => match i with
    | .dat (.int k) => (L2.atI dss k).map .inn
    | _ => none
  | .dK kvs => match i with
    | .dat d => (keyOf d).bind fun k => (lookA kvs k).map .dat
    | _ => none
  | .dT kvs => match i with
    | .dat (.tuple ds) => (keysOf ds).bind fun k => (lookA kvs k).map .dat
    | _ => none
  | _ => none
def cutL {α : Type} (xs : List α) (lo hi : Option Int) : List α := (xs.drop (HT.sIx xs.length 0 lo)).take (HT.sIx xs.length xs.length hi - HT.sIx xs.length 0 lo)
/-- a[lo:hi] -/
def sliceV (x : Slot) (lo hi : Option Int) : Option RV := match x with
  | .dat (.list ds) => some (.own (.lst (cutL ds lo hi)))
  | .lst ds => some (.own (.lst (cutL ds lo hi)))
  | .scr ns => some (.own (.lst ((cutL ns lo hi).map PyData.int)))
  | .dat (.tuple ds) => some (.dat (.tuple (cutL ds lo hi)))
  | _ => none

/-! ### built-ins -/
inductive Bi where
  | len | isInt | isBool | isStr | isTuple | isList | all | any | tuple | list | sum | min | max | abs | int | max2 | min2 | reprB | str | sorted
  deriving DecidableEq
def minI : Int → List Int → Int
  | m, [] => m
  | m, x :: r => minI (if x < m then x else m) r
def maxI : Int → List Int → Int
  | m, [] => m
  | m, x :: r => maxI (if m < x then x else m) r
def isTy (p : D → Bool) (x : Slot) : Option RV := match dataOf x with
  | some d => some (.dat (.bool (p d)))
  | none => none
def bi1 (f : Slot → Option RV) (xs : List Slot) : Option RV := match xs with
  | [x] => f x
  | _ => none
def lenV (x : Slot) : Option RV := match seqOf x with
  | some ds => some (.dat (.int ds.length))
  | none => match x with
    | .dat (.str z) => if okLen z.length then some (.dat (.int z.length)) else none
    | .rows dss => some (.dat (.int dss.length))
    | _ => none
def lstOf (x : Slot) : Option (List D) := match x with
  | .lst ds => some ds
  | .dat (.list ds) => some ds
  | _ => none
def minV (x : Slot) : Option RV := (lstOf x).bind fun ds => match intsOf ds with
  | some (n :: ns) => some (.dat (.int (minI n ns)))
  | _ => none
def maxV (x : Slot) : Option RV := (lstOf x).bind fun ds => match intsOf ds with
  | some (n :: ns) => some (.dat (.int (maxI n ns)))
  | _ => none
def int1 (g : Int → Int) (xs : List Slot) : Option RV := match xs with
  | [.dat (.int i)] => some (.dat (.int (g i)))
  | _ => none
def int2 (g : Int → Int → Int) (xs : List Slot) : Option RV := match xs with
  | [.dat (.int i), .dat (.int j)] => some (.dat (.int (g i j)))
  | _ => none
def strsOf : List D → Option (List Str)
  | [] => some []
  | .str x :: r => (strsOf r).map (x :: ·)
  | _ :: _ => none
def pairsOf : List D → Option (List (Int × Int))
  | [] => some []
  | .tuple [.int i, .int j] :: r => (pairsOf r).map ((i, j) :: ·)
  | _ :: _ => none
def pairD (p : Int × Int) : D := .tuple [.int p.1, .int p.2]
def leI (i j : Int) : Bool := decide (i ≤ j)
/-- first by the one, then by the other -/
def leP (p q : Int × Int) : Bool := decide (p.1 < q.1) || (decide (p.1 = q.1) && decide (p.2 ≤ q.2))
def sortI (ns : List Int) : List Int := ns.mergeSort leI
def sortP (ps : List (Int × Int)) : List (Int × Int) := ps.mergeSort leP
def sortV (ds : List D) : Option RV := match intsOf ds with
  | some ns => some (.own (.lst ((sortI ns).map .int)))
  | none => (pairsOf ds).map fun ps => .own (.lst ((sortP ps).map pairD))
def strV (x : Slot) : Option RV := match x with
  | .dat (.int i) => if Nat.blt i.natAbs.log2 1920 then some (.dat (.str (toString i))) else none
  | _ => none
def joinV (s : Str) (x : Slot) : Option RV := (seqOf x).bind fun ds => (strsOf ds).bind fun ys =>
  if okLen ((ys.map (·.length)).sum + ys.length * s.length) then some (.dat (.str (PySem.Txt.join s ys))) else none
def splitV (s : Str) (x : Slot) : Option RV := match x with
  | .dat (.str a) => if !(s.length == 0) && okLen (a.length + 2) then some (.own (.lst ((PySem.Txt.split a s).map .str))) else none
  | _ => none
def revV (x : Slot) : Option RV := (lstOf x).map fun ds => .own (.lst ds.reverse)
def boo1 (g : Bool → RV) (xs : List Slot) : Option RV := match xs with
  | [.dat (.bool b)] => some (g b)
  | _ => none
def biV (b : Bi) (xs : List Slot) : Option RV := match b with
  | .len => bi1 lenV xs
  | .isInt => bi1 (isTy (fun d => match d with | .int _ => true | .bool _ => true | _ => false)) xs
  | .isBool => bi1 (isTy (fun d => match d with | .bool _ => true | _ => false)) xs
  | .isStr => bi1 (isTy (fun d => match d with | .str _ => true | _ => false)) xs
  | .isTuple => bi1 (isTy (fun d => match d with | .tuple _ => true | _ => false)) xs
  | .isList => bi1 (isTy (fun d => match d with | .list _ => true | _ => false)) xs
  | .all => bi1 (fun x => (lstOf x).bind fun ds => (boolsOf ds).map fun bs => .dat (.bool (bs.all id))) xs
  | .any => bi1 (fun x => (lstOf x).bind fun ds => (boolsOf ds).map fun bs => .dat (.bool (bs.any id))) xs
  | .tuple => bi1 (fun x => (seqOf x).map fun ds => .dat (.tuple ds)) xs
  | .list => bi1 (fun x => (seqOf x).map fun ds => .own (.lst ds)) xs
  | .sum => bi1 (fun x => (lstOf x).bind fun ds => (intsOf ds).map fun ns => .dat (.int ns.sum)) xs
  | .min => bi1 minV xs
  | .max => bi1 maxV xs
  | .abs => int1 (fun i => if i < 0 then -i else i) xs
  | .int => int1 (fun i => i) xs
  | .max2 => int2 (fun i j => if j > i then j else i) xs
  | .min2 => int2 (fun i j => if j < i then j else i) xs
  | .str => bi1 strV xs
  | .sorted => bi1 (fun x => (lstOf x).bind sortV) xs
  | .reprB => boo1 (fun b => .dat (.str (if b then "True" else "False"))) xs

/-! ### the language -/
inductive Tg where
  | nm (i : Nat)
  | tup (is : List Nat)
mutual
inductive E where
  | var (i : Nat)
  | cst (d : D)
  | glb (x : Str) (d : D)
  | tup (es : Es)
  | lst (es : Es)
  | newK
  | newT
  | bin (op : Op) (a b : E)
  | cmp (op : Cmp) (a b : E)
  | chain (o1 o2 : Cmp) (a b c : E)
  | and (a b : E)
  | or (a b : E)
  | not (a : E)
  | ite (c a b : E)
  | neg (a : E)
  | sub (a i : E)
  | slice (a : E) (lo hi : O)
  | call (f : Str) (es : Es)
  | bi (b : Bi) (es : Es)
  | comp (own : List Nat) (tg : Tg) (it : It) (cs : Es) (elt : E)
  | compR (own : List Nat) (tg : Tg) (it : It) (elt : E)
  | gdict (x : Str) (i : E) (kvs : List (Key × D))
  | ingdict (neg : Bool) (x : Str) (i : E) (kvs : List (Key × D))
  | pop (i : Nat)
  | said (f : Str) (tbl : List (Str × Str)) (e : E)
  | join (x : Option Str) (s : Str) (e : E)
  | split (s : Str) (e : E)
  | rev (e : E)
  | disp1 (k v : E)
  | get2 (x : Nat) (k d : E)
  | get1 (x : Nat) (k : E)
  | zipl (a b : E)
inductive Es where
  | nil
  | cons (e : E) (es : Es)
inductive O where
  | none
  | some (e : E)
inductive It where
  | seq (e : E)
  | range1 (a : E)
  | range2 (a b : E)
  | range3 (a b c : E)
  | enum (e : E)
  | zip (a b : E)
  | keys (e : E)
end
mutual
inductive S where
  | set (tg : Tg) (e : E)
  | par (is : List Nat) (es : Es)
  | setSub (x : Nat) (i e : E)
  | setSub2 (x : Nat) (i j e : E)
  | aug (i : Nat) (op : Op) (e : E)
  | app (x : Nat) (e : E)
  | ext (x : Nat) (e : E)
  | expr (e : E)
  | ret (e : E)
  | ite (c : E) (a b : Ss)
  | for (tg : Tg) (it : It) (b : Ss)
  | while (c : E) (b : Ss)
  | raise (c : Str)
  | pass
  | brk
  | cnt
inductive Ss where
  | nil
  | cons (s : S) (ss : Ss)
end
/-- a def: how many parameters, its names, its body -/
structure Fn where
  np : Nat
  names : List Str
  reb : List Nat
  body : Ss
/-! no call of a def stands in it -/
mutual
def E.quiet : E → Bool
  | .var _ | .cst _ | .glb _ _ | .newK | .newT => true
  | .tup es | .lst es | .bi _ es => es.quiet
  | .bin _ a b | .cmp _ a b | .sub a b => a.quiet && b.quiet
  | .not a | .neg a => a.quiet
  | .gdict _ i _ | .ingdict _ _ i _ => i.quiet
  | .and _ _ | .or _ _ | .chain _ _ _ _ _ | .ite _ _ _ | .slice _ _ _ | .call _ _ | .comp _ _ _ _ _ | .compR _ _ _ _ | .pop _ | .said _ _ _ | .join _ _ _ | .split _ _ | .rev _ | .disp1 _ _ | .get2 _ _ _ | .get1 _ _ | .zipl _ _ => false
def Es.quiet : Es → Bool
  | .nil => true
  | .cons e es => e.quiet && es.quiet
end

/-! ### the evaluator -/
def wipeS (δ : Sts) : List Nat → Sts
  | [] => δ
  | v :: vs => (wipeS δ vs).set v .emp
def backS (δ0 δ : Sts) : List Nat → Sts
  | [] => δ
  | v :: vs => (backS δ0 δ vs).set v (getS δ0 v)
def isPlain : Slot → Bool
  | .emp => true
  | .dat _ => true
  | _ => false
def plainS (δ : Sts) (own : List Nat) : Bool := own.all fun i => decide (i < δ.length) && isPlain (getS δ i)
def setAll : List Nat → List D → Sts → Option Sts
  | [], [], δ => some δ
  | i :: is, d :: ds, δ => setAll is ds (δ.set i (.dat d))
  | _, _, _ => none
def asgD (tg : Tg) (d : D) (δ : Sts) : Option Sts := match tg with
  | .nm i => some (δ.set i (.dat d))
  | .tup is => match d with
    | .tuple ds => setAll is ds δ
    | _ => none
def slotOf : RV → Option Slot
  | .dat d => some (.dat d)
  | .own s => some s
  | _ => none
def asgR (tg : Tg) (r : RV) (δ : Sts) : Option Sts := match tg, r with
  | .nm i, .own s => some (δ.set i s)
  | .nm i, .dat d => some (δ.set i (.dat d))
  | .nm i, r => match settle r δ with
    | .ok d δ' => some (δ'.set i (.dat d))
    | _ => none
  | .tup is, r => match settle r δ with
    | .ok (.tuple ds) δ' => setAll is ds δ'
    | _ => none
def rangeL (a : Int) (c : Int) : Nat → List D
  | 0 => []
  | n + 1 => .int a :: rangeL (a + c) c n
def rangeN (a b c : Int) : Nat := if 0 < c then ((b - a + c - 1) / c).toNat else ((a - b - c - 1) / (-c)).toNat
def in62 (i : Int) : Bool := decide (-(2 ^ 62) ≤ i) && decide (i < 2 ^ 62)
def enumL : Nat → List D → List D
  | _, [] => []
  | i, d :: r => .tuple [.int i, d] :: enumL (i + 1) r
def zipL : List D → List D → List D
  | a :: as, b :: bs => .tuple [a, b] :: zipL as bs
  | _, _ => []
/-- a list comprehension's turns -/
def compF (step : D → Sts → Res (Option D)) : List D → List D → Sts → Res (List D)
  | [], acc, δ => .ok acc δ
  | d :: r, acc, δ => match step d δ with
    | .ok (some y) δ' => compF step r (acc ++ [y]) δ'
    | .ok none δ' => compF step r acc δ'
    | _ => .stuck
def forF (step : D → Sts → Flow) : List D → Sts → Flow
  | [], δ => .next δ
  | d :: r, δ => match step d δ with
    | .next δ' => forF step r δ'
    | .cnt δ' => forF step r δ'
    | .brk δ' => .next δ'
    | f => f
def whileF (test : Sts → Res Bool) (body : Sts → Flow) : Nat → Sts → Flow
  | 0, _ => .stuck
  | n + 1, δ => (test δ).flow fun b δ' => if b then (match body δ' with
    | .next δ2 => whileF test body n δ2
    | .cnt δ2 => whileF test body n δ2
    | .brk δ2 => .next δ2
    | f => f) else .next δ'
def fuel : Nat := 1000000000
/-- the arguments of a call: data, or a name's own thing, lent -/
def argsOf : List RV → Sts → Option (List Slot)
  | [], _ => some []
  | .dat d :: r, δ => (argsOf r δ).map (.dat d :: ·)
  | .loc i :: r, δ => (argsOf r δ).map (getS δ i :: ·)
  | _ :: _, _ => none
def giveBack : List RV → Sts → Sts → Option Sts
  | [], [], δ => some δ
  | .dat _ :: r, _ :: bs, δ => giveBack r bs δ
  | .loc i :: r, b :: bs, δ => giveBack r bs (δ.set i b)
  | _, _, _ => none
def locsOf : List RV → List Nat
  | [] => []
  | .loc i :: r => i :: locsOf r
  | _ :: r => locsOf r
def nodupN : List Nat → Bool
  | [] => true
  | i :: r => !r.contains i && nodupN r
def setIn {α : Type} (xs : List α) (k : Int) (v : α) : Option (List α) := (L2.ixN xs.length k).map fun j => xs.set j v

/-! ### the pieces of the evaluator -/
abbrev M (α : Type) : Type := Sts → Res α
def kVar (i : Nat) : M RV := fun δ => match getS δ i with
  | .emp => .stuck
  | .dat d => .ok (.dat d) δ
  | _ => .ok (.loc i) δ
def innOk : RV → Bool → Bool
  | .inn _, q => q
  | _, _ => true
/-- two operands, as they stand behind both; q: the second one is quiet -/
def kBin (f : Slot → Slot → Option RV) (q : Bool) (ea eb : M RV) : M RV := fun δ => (ea δ).bind fun ra δ1 => (eb δ1).bind fun rb δ2 =>
  if innOk ra q then Res.ofOpt (f (view ra δ2) (view rb δ2)) δ2 else .stuck
def fOp (op : Op) (x y : Slot) : Option RV := opV op x y
def fCmp (op : Cmp) (x y : Slot) : Option RV := (cmpV op x y).map fun c => .dat (.bool c)
def kTest (t : Slot → Option Bool) (m : M RV) : M Bool := fun δ => (m δ).bind fun r δ => Res.ofOpt (t (view r δ)) δ
def kChain (o1 o2 : Cmp) (ea eb ec : M RV) : M RV := fun δ => (ea δ).bind fun ra δ1 => (eb δ1).bind fun rb δ2 => match ra, rb with
  | .dat x, .dat y => (match cmpV o1 (.dat x) (.dat y) with
    | some true => (ec δ2).bind fun rc δ3 => (match rc with
      | .dat z => Res.ofOpt ((cmpV o2 (.dat y) (.dat z)).map fun c => .dat (.bool c)) δ3
      | _ => .stuck)
    | some false => .ok (.dat (.bool false)) δ2
    | none => .stuck)
  | _, _ => .stuck
def kAnd (ea eb : M RV) : M RV := fun δ => (ea δ).bind fun ra δ => match ra with
  | .dat (.bool true) => eb δ
  | .dat (.bool false) => .ok (.dat (.bool false)) δ
  | _ => .stuck
def kOr (ea eb : M RV) : M RV := fun δ => (ea δ).bind fun ra δ => match ra with
  | .dat (.bool false) => eb δ
  | .dat (.bool true) => .ok (.dat (.bool true)) δ
  | _ => .stuck
def kNot (ea : M RV) : M RV := fun δ => (ea δ).bind fun ra δ => match ra with
  | .dat (.bool b) => .ok (.dat (.bool (!b))) δ
  | _ => .stuck
def kNeg (ea : M RV) : M RV := fun δ => (ea δ).bind fun ra δ => match ra with
  | .dat (.int i) => .ok (.dat (.int (-i))) δ
  | _ => .stuck
def kIte {α : Type} (c : M Bool) (ea eb : M α) : M α := fun δ => (c δ).bind fun k δ => if k then ea δ else eb δ
def kSlice (ea : M RV) (lo hi : M (Option Int)) : M RV := fun δ => (ea δ).bind fun ra δ1 => (lo δ1).bind fun l δ2 => (hi δ2).bind fun h δ3 =>
  if innOk ra false then Res.ofOpt (sliceV (view ra δ3) l h) δ3 else .stuck
def isRet : RV → Bool
  | .dat _ => true
  | .own _ => true
  | _ => false
def callR (call : Str → List Slot → FRes) (f : Str) (rs : List RV) (δ : Sts) : Res RV := match argsOf rs δ with
  | none => .stuck
  | some as => if nodupN (locsOf rs) then (match call f as with
    | .ret r back => if isRet r then (match giveBack rs back δ with
      | some δ' => .ok r δ'
      | none => .stuck) else .stuck
    | .exc c back => (match giveBack rs back δ with
      | some δ' => .exc c δ'
      | none => .stuck)
    | .stuck => .stuck) else .stuck
def kCall (call : Str → List Slot → FRes) (f : Str) (es : M (List RV)) : M RV := fun δ => (es δ).bind fun rs δ => callR call f rs δ
def kBi (b : Bi) (es : M (List RV)) : M RV := fun δ => (es δ).bind fun rs δ => Res.ofOpt (biV b (rs.map fun r => view r δ)) δ
def stepC (own : List Nat) (tg : Tg) (cs : M Bool) (elt : M RV) (d : D) (δ : Sts) : Res (Option D) := match asgD tg d (wipeS δ own) with
  | some δ => (cs δ).bind fun b δ => if b then (elt δ).bind fun r δ => (settle r δ).bind fun y δ => .ok (some y) δ else .ok none δ
  | none => .stuck
def kComp (own : List Nat) (tg : Tg) (it : M (List D)) (cs : M Bool) (elt : M RV) : M RV := fun δ => (it δ).bind fun ds δ => if plainS δ own && okLen ds.length then
  (compF (stepC own tg cs elt) ds [] δ).bind fun ys δ' => .ok (.own (.lst ys)) (backS δ δ' own) else .stuck
/-- turns that make own lists -/
def compR (step : D → Sts → Res (List D)) : List D → List (List D) → Sts → Res (List (List D))
  | [], acc, δ => .ok acc δ
  | d :: r, acc, δ => match step d δ with
    | .ok y δ' => compR step r (acc ++ [y]) δ'
    | _ => .stuck
def stepR (own : List Nat) (tg : Tg) (elt : M RV) (d : D) (δ : Sts) : Res (List D) := match asgD tg d (wipeS δ own) with
  | some δ => (elt δ).bind fun r δ => match r with
    | .own (.lst ys) => .ok ys δ
    | _ => .stuck
  | none => .stuck
def kCompR (own : List Nat) (tg : Tg) (it : M (List D)) (elt : M RV) : M RV := fun δ => (it δ).bind fun ds δ => if plainS δ own && okLen ds.length then
  (compR (stepR own tg elt) ds [] δ).bind fun ys δ' => .ok (.own (.rows ys)) (backS δ δ' own) else .stuck
def kGd (kvs : List (Key × D)) (ei : M RV) : M RV := fun δ => (ei δ).bind fun ri δ => match ri with
  | .dat (.str z) => Res.ofOpt ((lookA kvs (.inr z)).map .dat) δ
  | _ => .stuck
def kInG (neg : Bool) (kvs : List (Key × D)) (ei : M RV) : M RV := fun δ => (ei δ).bind fun ri δ => match ri with
  | .dat (.str z) => .ok (.dat (.bool (if neg then !(lookA kvs (.inr z)).isSome else (lookA kvs (.inr z)).isSome))) δ
  | _ => .stuck
def kPop (i : Nat) : M RV := fun δ => match getS δ i with
  | .lst ds => (match ds[ds.length - 1]? with
    | some d => .ok (.dat d) (δ.set i (.lst ds.dropLast))
    | none => .stuck)
  | _ => .stuck
def kSaid (tbl : List (Str × Str)) (m : M RV) : M RV := fun δ => match m δ with
  | .ok _ δ => .ok (.dat (.str "told")) δ
  | .exc c δ => (match tbl.lookup c with
    | some w => .ok (.dat (.str w)) δ
    | none => .stuck)
  | .stuck => .stuck
/-- one operand, as it stands -/
def kUn (f : Slot → Option RV) (e : M RV) : M RV := fun δ => (e δ).bind fun r δ => Res.ofOpt (f (view r δ)) δ
def keyD : Key → D
  | .inl i => .int i
  | .inr x => .str x
def kDisp1 (ek ev : M RV) : M RV := fun δ => (ek δ).bind fun rk δ => match rk with
  | .dat k => (ev δ).bind fun rv δ => (settle rv δ).bind fun d δ => Res.ofOpt ((keyOf k).map fun k => .own (.dK [(k, d)])) δ
  | _ => .stuck
def isDK (s : Slot) : Bool := match s with
  | .dK _ => true
  | _ => false
def getK (s : Slot) (k d : D) : Option RV := match s with
  | .dK kvs => (keyOf k).map fun k => .dat ((lookA kvs k).getD d)
  | _ => none
def kGet2 (x : Nat) (ek ed : M RV) : M RV := fun δ => if isDK (getS δ x) then (ek δ).bind fun rk δ => match rk with
  | .dat k => if isDK (getS δ x) then (ed δ).bind fun rd δ => (match rd with
    | .dat d => Res.ofOpt (getK (getS δ x) k d) δ
    | _ => .stuck) else .stuck
  | _ => .stuck else .stuck
def kGet1 (x : Nat) (ek : M RV) : M RV := fun δ => if isDK (getS δ x) then (ek δ).bind fun rk δ => match rk with
  | .dat k => Res.ofOpt (getK (getS δ x) k .none) δ
  | _ => .stuck else .stuck
def kZipl (ea eb : M RV) : M RV := fun δ => (ea δ).bind fun r δ => (settle r δ).bind fun d δ => (eb δ).bind fun r2 δ => (settle r2 δ).bind fun d2 δ => match d, d2 with
  | .tuple ds, .tuple es => .ok (.own (.lst (zipL ds es))) δ
  | _, _ => .stuck
def kKeys (e : M RV) : M (List D) := fun δ => (e δ).bind fun r δ => match r with
  | .own (.dK kvs) => .ok (kvs.map fun kv => keyD kv.1) δ
  | _ => .stuck
def kDs (e : M RV) (es : M (List D)) : M (List D) := fun δ => (e δ).bind fun r δ => (settle r δ).bind fun d δ => (es δ).bind fun ds δ => .ok (d :: ds) δ
/-- q: the rest is quiet -/
def kVs (q : Bool) (e : M RV) (es : M (List RV)) : M (List RV) := fun δ => (e δ).bind fun r δ => if innOk r q then (es δ).bind fun rs δ => .ok (r :: rs) δ else .stuck
def kRs (e : M RV) (es : M (List RV)) : M (List RV) := fun δ => (e δ).bind fun r δ => match r with
  | .loc i => (es δ).bind fun rs δ => .ok (.loc i :: rs) δ
  | r => (settle r δ).bind fun d δ => (es δ).bind fun rs δ => .ok (.dat d :: rs) δ
def kO (e : M RV) : M (Option Int) := fun δ => (e δ).bind fun r δ => match r with
  | .dat (.int i) => .ok (some i) δ
  | _ => .stuck
def listD : D → Option (List D)
  | .list ds => some ds
  | .tuple ds => some ds
  | _ => none
def kSeq (e : M RV) : M (List D) := fun δ => (e δ).bind fun r δ => (settle r δ).bind fun d δ => Res.ofOpt (listD d) δ
def kEnum (e : M RV) : M (List D) := fun δ => (e δ).bind fun r δ => (settle r δ).bind fun d δ => match d with
  | .list ds => .ok (enumL 0 ds) δ
  | .tuple ds => .ok (enumL 0 ds) δ
  | _ => .stuck
def kInt (e : M RV) : M Int := fun δ => (e δ).bind fun r δ => match r with
  | .dat (.int n) => if in62 n then .ok n δ else .stuck
  | _ => .stuck
def kR1 (a : M RV) : M (List D) := fun δ => (kInt a δ).bind fun n δ => .ok (rangeL 0 1 n.toNat) δ
def kR2 (a b : M RV) : M (List D) := fun δ => (kInt a δ).bind fun m δ => (kInt b δ).bind fun n δ => .ok (rangeL m 1 (n - m).toNat) δ
def kR3 (a b c : M RV) : M (List D) := fun δ => (kInt a δ).bind fun m δ => (kInt b δ).bind fun n δ => (kInt c δ).bind fun k δ => if k == -1 then .ok (rangeL m (-1) (m - n).toNat) δ else .stuck
def kZip (a b : M RV) : M (List D) := fun δ => (a δ).bind fun r δ => (settle r δ).bind fun d δ => (b δ).bind fun r2 δ => (settle r2 δ).bind fun d2 δ => match d, d2 with
  | .list ds, .list es => .ok (zipL ds es) δ
  | .tuple ds, .tuple es => .ok (zipL ds es) δ
  | _, _ => .stuck
def kConst {α : Type} (a : α) : M α := fun δ => .ok a δ
def kStuck {α : Type} : M α := fun _ => .stuck
section
variable (call : Str → List Slot → FRes)
mutual
def evE : E → M RV
  | .var i => kVar i
  | .cst d => kConst (.dat d)
  | .glb _ d => kConst (.dat d)
  | .tup es => fun δ => (evDs es δ).bind fun ds δ => .ok (.dat (.tuple ds)) δ
  | .lst es => fun δ => (evDs es δ).bind fun ds δ => .ok (.own (.lst ds)) δ
  | .newK => kConst (.own (.dK []))
  | .newT => kConst (.own (.dT []))
  | .bin op a b => kBin (fOp op) b.quiet (evE a) (evE b)
  | .cmp op a b => kBin (fCmp op) b.quiet (evE a) (evE b)
  | .chain o1 o2 a b c => kChain o1 o2 (evE a) (evE b) (evE c)
  | .and a b => kAnd (evE a) (evE b)
  | .or a b => kOr (evE a) (evE b)
  | .not a => kNot (evE a)
  | .ite c a b => kIte (evT c) (evE a) (evE b)
  | .neg a => kNeg (evE a)
  | .sub a i => kBin subV i.quiet (evE a) (evE i)
  | .slice a lo hi => kSlice (evE a) (evO lo) (evO hi)
  | .call f es => kCall call f (evRs es)
  | .bi b es => kBi b (evVs es)
  | .comp own tg it cs elt => kComp own tg (evI it) (evCs cs) (evE elt)
  | .compR own tg it elt => kCompR own tg (evI it) (evE elt)
  | .gdict _ i kvs => kGd kvs (evE i)
  | .ingdict neg _ i kvs => kInG neg kvs (evE i)
  | .pop i => kPop i
  | .said _ tbl e => kSaid tbl (evE e)
  | .join _ s e => kUn (joinV s) (evE e)
  | .split s e => kUn (splitV s) (evE e)
  | .rev e => kUn revV (evE e)
  | .disp1 k v => kDisp1 (evE k) (evE v)
  | .get2 x k d => kGet2 x (evE k) (evE d)
  | .get1 x k => kGet1 x (evE k)
  | .zipl a b => kZipl (evE a) (evE b)
termination_by structural e => e
/-- a test -/
def evT : E → M Bool
  | .and a b => kIte (evT a) (evT b) (kConst false)
  | .or a b => kIte (evT a) (kConst true) (evT b)
  | .not a => fun δ => (evT a δ).bind fun k δ => .ok (!k) δ
  | .cmp op a b => kTest boolOf (kBin (fCmp op) b.quiet (evE a) (evE b))
  | .chain o1 o2 a b c => kTest boolOf (kChain o1 o2 (evE a) (evE b) (evE c))
  | .var i => kTest truV (kVar i)
  | .call f es => kTest truV (kCall call f (evRs es))
  | .bi b es => kTest truV (kBi b (evVs es))
  | .sub a i => kTest truV (kBin subV i.quiet (evE a) (evE i))
  | .ingdict neg _ i kvs => kTest boolOf (kInG neg kvs (evE i))
  | _ => kStuck
termination_by structural e => e
/-- values for good -/
def evDs : Es → M (List D)
  | .nil => kConst []
  | .cons e es => kDs (evE e) (evDs es)
termination_by structural e => e
/-- values as they stand (of a built-in's arguments) -/
def evVs : Es → M (List RV)
  | .nil => kConst []
  | .cons e es => kVs es.quiet (evE e) (evVs es)
termination_by structural e => e
/-- a def's arguments -/
def evRs : Es → M (List RV)
  | .nil => kConst []
  | .cons e es => kRs (evE e) (evRs es)
termination_by structural e => e
/-- tests in a row -/
def evCs : Es → M Bool
  | .nil => kConst true
  | .cons e es => kIte (evT e) (evCs es) (kConst false)
termination_by structural e => e
def evO : O → M (Option Int)
  | .none => kConst none
  | .some e => kO (evE e)
termination_by structural e => e
/-- what is walked, item by item -/
def evI : It → M (List D)
  | .seq e => kSeq (evE e)
  | .range1 a => kR1 (evE a)
  | .range2 a b => kR2 (evE a) (evE b)
  | .range3 a b c => kR3 (evE a) (evE b) (evE c)
  | .enum e => kEnum (evE e)
  | .zip a b => kZip (evE a) (evE b)
  | .keys e => kKeys (evE e)
termination_by structural e => e
end
/-- several values at once, each for a name -/
def evPar : Es → M (List Slot)
  | .nil => kConst []
  | .cons e es => fun δ => (evE call e δ).bind fun r δ => match r with
      | .own s => (evPar es δ).bind fun ss δ => .ok (s :: ss) δ
      | r => (settle r δ).bind fun d δ => (evPar es δ).bind fun ss δ => .ok (.dat d :: ss) δ
def setSlots : List Nat → List Slot → Sts → Option Sts
  | [], [], δ => some δ
  | i :: is, s :: ss, δ => setSlots is ss (δ.set i s)
  | _, _, _ => none
def Flow.ofOpt : Option Sts → Flow
  | some δ => .next δ
  | none => .stuck
def hasS (δ : Sts) (x : Nat) : Bool := match getS δ x with
  | .emp => false
  | _ => true
def putV (s : Slot) (k d : D) : Option Slot := match s with
  | .lst ds => (match k with
    | .int j => (setIn ds j d).map .lst
    | _ => none)
  | .dK kvs => if Nat.blt kvs.length line then (keyOf k).map fun k => .dK (putA kvs k d) else none
  | .dT kvs => (match k with
    | .tuple ks => if Nat.blt kvs.length line then (keysOf ks).map fun k => .dT (putA kvs k d) else none
    | _ => none)
  | _ => none
def augV (op : Op) (x y : D) : Option D := match x with
  | .int i => (match y with
    | .int j => (match op with
      | .add => some (.int (i + j))
      | .sub => some (.int (i - j))
      | .mul => if mulOk i j then some (.int (i * j)) else none
      | .fdiv => if decide (0 < j) && decide (j < 1073741824) then some (.int (i / j)) else none
      | .mod => if decide (0 < j) then some (.int (i % j)) else none
      | .pow => none)
    | _ => none)
  | .str a => (match y with
    | .str b => (match op with
      | .add => if okLen (a.length + b.length) then some (.str (a ++ b)) else none
      | _ => none)
    | _ => none)
  | _ => none
mutual
def evS : S → Sts → Flow
  | .set tg e, δ => (evE call e δ).flow fun r δ => Flow.ofOpt (asgR tg r δ)
  | .par is es, δ => (evPar call es δ).flow fun ss δ => Flow.ofOpt (setSlots is ss δ)
  | .setSub x i e, δ => (evE call e δ).flow fun r δ => (settle r δ).flow fun d δ => if hasS δ x then
      (evE call i δ).flow fun ri δ => (match ri with
        | .dat k => Flow.ofOpt ((putV (getS δ x) k d).map fun s => δ.set x s)
        | _ => .stuck) else .stuck
  | .setSub2 x i j e, δ => (evE call e δ).flow fun r δ => (settle r δ).flow fun d δ => if hasS δ x then
      (evE call i δ).flow fun ri δ => (match ri, getS δ x with
        | .dat (.int a), .rows dss => if (L2.atI dss a).isSome && j.quiet then (evE call j δ).flow fun rj δ => (match rj, getS δ x with
          | .dat (.int b), .rows dss => Flow.ofOpt ((L2.ixN dss.length a).bind fun n => (dss[n]?).bind fun ds => (setIn ds b d).map fun ds => δ.set x (.rows (dss.set n ds)))
          | _, _ => .stuck) else .stuck
        | _, _ => .stuck) else .stuck
  | .aug i op e, δ => match getS δ i with
      | .dat x => (evE call e δ).flow fun r δ => (match r with
        | .dat y => (match augV op x y with
          | some z => .next (δ.set i (.dat z))
          | none => .stuck)
        | _ => .stuck)
      | _ => .stuck
  | .app x e, δ => match getS δ x with
      | .lst _ => (evE call e δ).flow fun r δ => (settle r δ).flow fun d δ => (match getS δ x with
        | .lst ds => if Nat.blt ds.length line then .next (δ.set x (.lst (ds ++ [d]))) else .stuck
        | _ => .stuck)
      | _ => .stuck
  | .ext x e, δ => match getS δ x with
      | .lst _ => (evE call e δ).flow fun r δ => (settle r δ).flow fun d δ => (match d, getS δ x with
        | .list es, .lst ds => if okLen (ds.length + es.length) then .next (δ.set x (.lst (ds ++ es))) else .stuck
        | _, _ => .stuck)
      | _ => .stuck
  | .expr e, δ => (evE call e δ).flow fun _ δ => .next δ
  | .ret e, δ => (evE call e δ).flow fun r δ => .ret r δ
  | .ite c a b, δ => (evT call c δ).flow fun k δ => if k then evSs a δ else evSs b δ
  | .for tg it b, δ => (evI call it δ).flow fun ds δ => forF (fun d δ => match asgD tg d δ with
      | some δ => evSs b δ
      | none => .stuck) ds δ
  | .while c b, δ => whileF (evT call c) (evSs b) fuel δ
  | .raise c, δ => .exc c δ
  | .pass, δ => .next δ
  | .brk, δ => .brk δ
  | .cnt, δ => .cnt δ
termination_by structural e => e
def evSs : Ss → Sts → Flow
  | .nil, δ => .next δ
  | .cons s ss, δ => match evS s δ with
    | .next δ => evSs ss δ
    | f => f
termination_by structural e => e
end
end
/-- the parameters behind a call: those that are never stored, as they stand; the others' data as they came -/
def backOf (F : Fn) (as δ : Sts) : Sts := (List.range F.np).map fun i => if F.reb.contains i then getS as i else getS δ i
/-- what a call gives back -/
def outR (F : Fn) (as : Sts) (r : RV) (δ : Sts) : FRes := match r with
  | .dat d => .ret (.dat d) (backOf F as δ)
  | .own s => .ret (.own s) (backOf F as δ)
  | .loc i => if Nat.ble F.np i && hasS δ i then .ret (.own (getS δ i)) (backOf F as δ) else .stuck
  | .inn _ => .stuck
def plainArg : Slot → Bool
  | .dat _ => true
  | _ => false
/-- a def run: own things go only to parameters that it never stores -/
def runFn (call : Str → List Slot → FRes) (F : Fn) (as : List Slot) : FRes :=
  if as.length = F.np ∧ (∀ i ∈ F.reb, plainArg (as.getD i .emp) = true) then
    match evSs call F.body (as ++ List.replicate (F.names.length - as.length) .emp) with
    | .next δ => .ret (.dat .none) (backOf F as δ)
    | .ret r δ => outR F as r δ
    | .exc c δ => .exc c (backOf F as δ)
    | _ => .stuck
  else .stuck
def lookF (T : List (Str × Fn)) (f : Str) : Option Fn := T.lookup f
def evF (T : List (Str × Fn)) : Nat → Str → List Slot → FRes
  | 0, _, _ => .stuck
  | n + 1, f, as => match lookF T f with
    | some F => runFn (evF T n) F as
    | none => .stuck
end Ev

set_option Elab.async false
set_option linter.all false
set_option maxRecDepth 100000
set_option maxHeartbeats 1000000
/-! How the evaluator's states lie in the layer's heaps. -/
namespace Ev
open PySem PySem.Spec PyProof.Rows L2
/-! ### data -/
mutual
inductive Rp (K : PySem.W.Frag) (Z : Hp) : V → D → Prop
  | non : Rp K Z .non .none
  | bl (b : Bool) : Rp K Z (.bl b) (.bool b)
  | int (i : Int) : Rp K Z (.int i) (.int i)
  | str (x : Str) : Rp K Z (.str x) (.str x)
  | lst {a : Addr} {xs : List V} {ds : List D} : Z a = some (.lst xs) → RpL K Z xs ds → Rp K Z (.ref a) (.list ds)
  | tup {a : Addr} {xs : List V} {ds : List D} : Z a = some (.tup xs) → RpL K Z xs ds → Rp K Z (.ref a) (.tuple ds)
inductive RpL (K : PySem.W.Frag) (Z : Hp) : List V → List D → Prop
  | nil : RpL K Z [] []
  | cons {v : V} {vs : List V} {d : D} {ds : List D} : Rp K Z v d → RpL K Z vs ds → RpL K Z (v :: vs) (d :: ds)
end
section
variable {K : PySem.W.Frag} {Z Z' : Hp}
mutual
theorem Rp.mono (s : Same Z Z') : ∀ {v : V} {d : D}, Rp K Z v d → Rp K Z' v d
  | _, _, .non => .non
  | _, _, .bl b => .bl b
  | _, _, .int i => .int i
  | _, _, .str x => .str x
  | _, _, .lst h r => .lst (s _ _ h) (RpL.mono s r)
  | _, _, .tup h r => .tup (s _ _ h) (RpL.mono s r)
theorem RpL.mono (s : Same Z Z') : ∀ {vs : List V} {ds : List D}, RpL K Z vs ds → RpL K Z' vs ds
  | _, _, .nil => .nil
  | _, _, .cons h r => .cons (Rp.mono s h) (RpL.mono s r)
end
mutual
theorem Rp.dp : ∀ {v : V} {d : D}, Rp K Z v d → Dp K Z v d
  | _, _, .non => .non
  | _, _, .bl b => .bl b
  | _, _, .int i => .int i
  | _, _, .str x => .str x
  | _, _, .lst h r => .lst (SqL.of h) (RpL.dp r)
  | _, _, .tup h r => .tup (SqT.of h) (RpL.dp r)
theorem RpL.dp : ∀ {vs : List V} {ds : List D}, RpL K Z vs ds → DpAll K Z vs ds
  | _, _, .nil => .nil
  | _, _, .cons h r => .cons (Rp.dp h) (RpL.dp r)
end
theorem RpL.len : ∀ {vs : List V} {ds : List D}, RpL K Z vs ds → vs.length = ds.length
  | _, _, .nil => rfl
  | _, _, .cons _ r => by rw [List.length_cons, List.length_cons, r.len]
theorem RpL.app : ∀ {vs us : List V} {ds es : List D}, RpL K Z vs ds → RpL K Z us es → RpL K Z (vs ++ us) (ds ++ es)
  | _, _, _, _, .nil, s => s
  | _, _, _, _, .cons h r, s => .cons h (r.app s)
theorem RpL.get : ∀ {vs : List V} {ds : List D} {i : Nat} {d : D}, RpL K Z vs ds → ds[i]? = some d → ∃ v, vs[i]? = some v ∧ Rp K Z v d
  | _, _, _, _, .nil, e => by simp at e
  | _, _, 0, _, .cons h _, e => by simp at e; subst e; exact ⟨_, rfl, h⟩
  | _, _, i + 1, _, .cons _ r, e => by simp at e; exact r.get e
theorem RpL.getV : ∀ {vs : List V} {ds : List D} {i : Nat} {v : V}, RpL K Z vs ds → vs[i]? = some v → ∃ d, ds[i]? = some d ∧ Rp K Z v d
  | _, _, _, _, .nil, e => by simp at e
  | _, _, 0, _, .cons h _, e => by simp at e; subst e; exact ⟨_, rfl, h⟩
  | _, _, i + 1, _, .cons _ r, e => by simp at e; exact r.getV e
theorem RpL.set : ∀ {vs : List V} {ds : List D} {i : Nat} {v : V} {d : D}, RpL K Z vs ds → Rp K Z v d → RpL K Z (vs.set i v) (ds.set i d)
  | _, _, _, _, _, .nil, _ => .nil
  | _, _, 0, _, _, .cons _ r, h => .cons h r
  | _, _, i + 1, _, _, .cons h' r, h => .cons h' (r.set h)
theorem RpL.take : ∀ {vs : List V} {ds : List D} (n : Nat), RpL K Z vs ds → RpL K Z (vs.take n) (ds.take n)
  | _, _, 0, _ => .nil
  | _, _, _ + 1, .nil => .nil
  | _, _, n + 1, .cons h r => .cons h (r.take n)
theorem RpL.drop : ∀ {vs : List V} {ds : List D} (n : Nat), RpL K Z vs ds → RpL K Z (vs.drop n) (ds.drop n)
  | _, _, 0, r => r
  | _, _, _ + 1, .nil => .nil
  | _, _, n + 1, .cons _ r => r.drop n
theorem RpL.rep {vs : List V} {ds : List D} (r : RpL K Z vs ds) : ∀ n : Nat, RpL K Z (List.replicate n vs).flatten (List.replicate n ds).flatten
  | 0 => .nil
  | n + 1 => by rw [List.replicate_succ, List.replicate_succ, List.flatten_cons, List.flatten_cons]; exact r.app (r.rep n)
theorem RpL.dropLast : ∀ {vs : List V} {ds : List D}, RpL K Z vs ds → RpL K Z vs.dropLast ds.dropLast
  | _, _, .nil => .nil
  | _, _, .cons h .nil => .nil
  | _, _, .cons h (.cons h' r) => .cons h (RpL.dropLast (.cons h' r))
theorem RpL.cut {vs : List V} {ds : List D} {lo hi : Option Int} (r : RpL K Z vs ds) : RpL K Z (cutV vs lo hi) (cutL ds lo hi) := by
  unfold cutV cutL
  rw [r.len]
  exact (r.drop _).take _
theorem RpL.ints : ∀ {vs : List V} {ds : List D} {ns : List Int}, RpL K Z vs ds → intsOf ds = some ns → vs = ns.map V.int
  | _, _, ns, .nil, e => by
    have : ns = [] := (Option.some.inj e).symm
    subst this; rfl
  | _, _, ns, .cons (.int i) r, e => by
    unfold intsOf at e
    rename_i vs ds
    cases q : intsOf ds with
    | none => rw [q] at e; cases e
    | some ms =>
      rw [q] at e
      have : ns = i :: ms := (Option.some.inj e).symm
      subst this
      rw [List.map_cons, r.ints q]
  | _, _, _, .cons .non _, e => by cases e
  | _, _, _, .cons (.bl _) _, e => by cases e
  | _, _, _, .cons (.str _) _, e => by cases e
  | _, _, _, .cons (.lst _ _) _, e => by cases e
  | _, _, _, .cons (.tup _ _) _, e => by cases e
theorem RpL.bools : ∀ {vs : List V} {ds : List D} {ns : List Bool}, RpL K Z vs ds → boolsOf ds = some ns → vs = ns.map V.bl
  | _, _, ns, .nil, e => by
    have : ns = [] := (Option.some.inj e).symm
    subst this; rfl
  | _, _, ns, .cons (.bl i) r, e => by
    unfold boolsOf at e
    rename_i vs ds
    cases q : boolsOf ds with
    | none => rw [q] at e; cases e
    | some ms =>
      rw [q] at e
      have : ns = i :: ms := (Option.some.inj e).symm
      subst this
      rw [List.map_cons, r.bools q]
  | _, _, _, .cons .non _, e => by cases e
  | _, _, _, .cons (.int _) _, e => by cases e
  | _, _, _, .cons (.str _) _, e => by cases e
  | _, _, _, .cons (.lst _ _) _, e => by cases e
  | _, _, _, .cons (.tup _ _) _, e => by cases e
end
/-! ### the entries of dicts -/
def KvR (K : PySem.W.Frag) (Z : Hp) {κ : Type} : List (κ × V) → List (κ × D) → Prop
  | [], [] => True
  | p :: r, q :: s => p.1 = q.1 ∧ Rp K Z p.2 q.2 ∧ KvR K Z r s
  | _, _ => False
section
variable {K : PySem.W.Frag} {Z Z' : Hp} {κ : Type} [DecidableEq κ]
theorem KvR.mono (s : Same Z Z') : ∀ {a : List (κ × V)} {b : List (κ × D)}, KvR K Z a b → KvR K Z' a b
  | [], [], _ => trivial
  | _ :: _, _ :: _, ⟨e, h, r⟩ => ⟨e, h.mono s, KvR.mono s r⟩
  | [], _ :: _, h => h.elim
  | _ :: _, [], h => h.elim
theorem KvR.len : ∀ {a : List (κ × V)} {b : List (κ × D)}, KvR K Z a b → a.length = b.length
  | [], [], _ => rfl
  | _ :: _, _ :: _, ⟨_, _, r⟩ => by rw [List.length_cons, List.length_cons, KvR.len r]
  | [], _ :: _, h => h.elim
  | _ :: _, [], h => h.elim
theorem KvR.look : ∀ {a : List (κ × V)} {b : List (κ × D)} (k : κ), KvR K Z a b → (∀ d, lookA b k = some d → ∃ v, valV a k = some v ∧ Rp K Z v d) ∧ (lookA b k = none → valV a k = none)
  | [], [], k, _ => ⟨fun d e => (by cases e), fun _ => rfl⟩
  | p :: r, q :: s, k, ⟨e, h, t⟩ => by
    obtain ⟨h1, h2⟩ := KvR.look k t
    obtain ⟨pk, pv⟩ := p
    obtain ⟨qk, qd⟩ := q
    have e : pk = qk := e
    subst e
    by_cases c : pk = k
    · refine ⟨fun d e => ?_, fun e => ?_⟩
      · simp only [lookA, if_pos c] at e
        cases e
        exact ⟨pv, valV_pos (p := (pk, pv)) c, h⟩
      · simp only [lookA, if_pos c] at e
        cases e
    · have e3 : valV ((pk, pv) :: r) k = valV r k := by simp [valV, List.find?_cons, c]
      simp only [lookA, if_neg c, e3]
      exact ⟨h1, h2⟩
  | [], _ :: _, _, h => h.elim
  | _ :: _, [], _, h => h.elim
theorem KvR.any : ∀ {a : List (κ × V)} {b : List (κ × D)} (k : κ), KvR K Z a b → (a.any fun kv => decide (kv.1 = k)) = (lookA b k).isSome
  | [], [], k, _ => rfl
  | (pk, pv) :: r, (qk, qd) :: s, k, ⟨e, h, t⟩ => by
    have e : pk = qk := e
    subst e
    rw [List.any_cons, KvR.any k t]
    by_cases c : pk = k
    · simp [lookA, c]
    · simp [lookA, c]
  | [], _ :: _, _, h => h.elim
  | _ :: _, [], _, h => h.elim
end

/-! ### things -/
def RowsR (K : PySem.W.Frag) (Z G : Hp) : List Addr → List (List D) → Prop
  | [], [] => True
  | a :: as, ds :: dss => (∃ vs, G a = some (.lst vs) ∧ RpL K Z vs ds) ∧ RowsR K Z G as dss
  | _, _ => False
def SlR (K : PySem.W.Frag) (Z G : Hp) : Slot → V → List Addr → Prop
  | .emp, _, _ => False
  | .dat d, v, B => Rp K Z v d ∧ B = []
  | .lst ds, v, B => ∃ a vs, v = .ref a ∧ G a = some (.lst vs) ∧ RpL K Z vs ds ∧ B = [a]
  | .rows dss, v, B => ∃ a as, v = .ref a ∧ G a = some (.lst (as.map V.ref)) ∧ RowsR K Z G as dss ∧ B = a :: as ∧ (a :: as).Nodup
  | .dK kvs, v, B => ∃ a ps, v = .ref a ∧ G a = some (.dK ps) ∧ KvR K Z ps kvs ∧ B = [a]
  | .dT kvs, v, B => ∃ a ps, v = .ref a ∧ G a = some (.dT ps) ∧ KvR K Z ps kvs ∧ B = [a]
  | .obj _ _, _, _ => False
  | .scr ns, v, B => ∃ a, v = .ref a ∧ SqL K Z a (ns.map V.int) ∧ B = []
def isOwn : HO → Bool
  | .lst _ => true
  | .dK _ => true
  | .dT _ => true
  | _ => false
section
variable {K : PySem.W.Frag} {Z Z' G G' : Hp}
theorem RowsR.mono (s : Same Z Z') : ∀ {as : List Addr} {dss : List (List D)}, RowsR K Z G as dss → (∀ a ∈ as, ∀ o, G a = some o → G' a = some o) → RowsR K Z' G' as dss
  | [], [], _, _ => trivial
  | a :: as, ds :: dss, ⟨⟨vs, e, r⟩, t⟩, h => ⟨⟨vs, h a List.mem_cons_self _ e, r.mono s⟩, RowsR.mono s t fun b hb => h b (List.mem_cons_of_mem _ hb)⟩
  | [], _ :: _, h, _ => h.elim
  | _ :: _, [], h, _ => h.elim
theorem RowsR.len : ∀ {as : List Addr} {dss : List (List D)}, RowsR K Z G as dss → as.length = dss.length
  | [], [], _ => rfl
  | a :: as, ds :: dss, ⟨_, t⟩ => by rw [List.length_cons, List.length_cons, RowsR.len t]
  | [], _ :: _, h => h.elim
  | _ :: _, [], h => h.elim
theorem RowsR.get : ∀ {as : List Addr} {dss : List (List D)} {i : Nat} {ds : List D}, RowsR K Z G as dss → dss[i]? = some ds → ∃ a vs, as[i]? = some a ∧ G a = some (.lst vs) ∧ RpL K Z vs ds
  | [], [], _, _, _, e => by simp at e
  | a :: as, ds :: dss, 0, _, ⟨⟨vs, h, r⟩, t⟩, e => by simp at e; subst e; exact ⟨a, vs, rfl, h, r⟩
  | a :: as, ds :: dss, i + 1, _, ⟨_, t⟩, e => by
    simp at e
    obtain ⟨b, vs, h1, h2, h3⟩ := RowsR.get t e
    exact ⟨b, vs, by simpa using h1, h2, h3⟩
  | [], _ :: _, _, _, h, _ => h.elim
  | _ :: _, [], _, _, h, _ => h.elim
theorem RowsR.mem : ∀ {as : List Addr} {dss : List (List D)}, RowsR K Z G as dss → ∀ a ∈ as, ∃ vs, G a = some (.lst vs)
  | [], [], _, a, h => by cases h
  | b :: as, ds :: dss, ⟨⟨vs, e, _⟩, t⟩, a, h => by
    rcases List.mem_cons.mp h with rfl | h
    · exact ⟨vs, e⟩
    · exact RowsR.mem t a h
  | [], _ :: _, h, _, _ => h.elim
  | _ :: _, [], h, _, _ => h.elim
theorem SlR.mono (s : Same Z Z') : ∀ {x : Slot} {v : V} {B : List Addr}, SlR K Z G x v B → (∀ a ∈ B, ∀ o, G a = some o → G' a = some o) → SlR K Z' G' x v B
  | .emp, _, _, h, _ => h.elim
  | .dat d, _, _, ⟨h, e⟩, _ => ⟨h.mono s, e⟩
  | .lst ds, _, _, ⟨a, vs, e1, e2, r, e3⟩, h => ⟨a, vs, e1, h a (by rw [e3]; simp) _ e2, r.mono s, e3⟩
  | .rows dss, _, _, ⟨a, as, e1, e2, r, e3, n⟩, h => ⟨a, as, e1, h a (by rw [e3]; simp) _ e2, r.mono s fun b hb => h b (by rw [e3]; simp [hb]), e3, n⟩
  | .dK kvs, _, _, ⟨a, ps, e1, e2, r, e3⟩, h => ⟨a, ps, e1, h a (by rw [e3]; simp) _ e2, r.mono s, e3⟩
  | .dT kvs, _, _, ⟨a, ps, e1, e2, r, e3⟩, h => ⟨a, ps, e1, h a (by rw [e3]; simp) _ e2, r.mono s, e3⟩
  | .obj _ _, _, _, h, _ => h.elim
  | .scr ns, _, _, ⟨a, e1, e2, e3⟩, h => ⟨a, e1, s.seq e2, e3⟩
theorem SlR.same (s : Same Z Z') (g : Same G G') {x : Slot} {v : V} {B : List Addr} (h : SlR K Z G x v B) : SlR K Z' G' x v B := h.mono s fun a _ o e => g a o e
theorem SlR.mem : ∀ {x : Slot} {v : V} {B : List Addr}, SlR K Z G x v B → ∀ a ∈ B, ∃ o, G a = some o ∧ isOwn o = true
  | .emp, _, _, h, _, _ => h.elim
  | .dat d, _, _, ⟨h, e⟩, a, m => by rw [e] at m; cases m
  | .lst ds, _, _, ⟨b, vs, e1, e2, r, e3⟩, a, m => by
    rw [e3] at m; cases List.mem_singleton.mp m
    exact ⟨_, e2, rfl⟩
  | .rows dss, _, _, ⟨b, as, e1, e2, r, e3, n⟩, a, m => by
    rw [e3] at m
    rcases List.mem_cons.mp m with rfl | m
    · exact ⟨_, e2, rfl⟩
    · obtain ⟨vs, e⟩ := r.mem a m
      exact ⟨_, e, rfl⟩
  | .dK kvs, _, _, ⟨b, ps, e1, e2, r, e3⟩, a, m => by
    rw [e3] at m; cases List.mem_singleton.mp m
    exact ⟨_, e2, rfl⟩
  | .dT kvs, _, _, ⟨b, ps, e1, e2, r, e3⟩, a, m => by
    rw [e3] at m; cases List.mem_singleton.mp m
    exact ⟨_, e2, rfl⟩
  | .obj _ _, _, _, h, _, _ => h.elim
  | .scr ns, _, _, ⟨a, e1, e2, e3⟩, _, m => by rw [e3] at m; cases m
theorem SlR.nd : ∀ {x : Slot} {v : V} {B : List Addr}, SlR K Z G x v B → B.Nodup
  | .emp, _, _, h => h.elim
  | .dat d, _, _, ⟨h, e⟩ => by rw [e]; exact List.nodup_nil
  | .lst ds, _, _, ⟨b, vs, e1, e2, r, e3⟩ => by rw [e3]; simp
  | .rows dss, _, _, ⟨b, as, e1, e2, r, e3, n⟩ => by rw [e3]; exact n
  | .dK kvs, _, _, ⟨b, ps, e1, e2, r, e3⟩ => by rw [e3]; simp
  | .dT kvs, _, _, ⟨b, ps, e1, e2, r, e3⟩ => by rw [e3]; simp
  | .obj _ _, _, _, h => h.elim
  | .scr ns, _, _, ⟨a, e1, e2, e3⟩ => by rw [e3]; exact List.nodup_nil
end
/-! ### states -/
structure StR (K : PySem.W.Frag) (Tl : List (Addr × Str)) (Z F : Hp) (δ : Sts) (σ : L2.St) (H : Hp) (ow : Nat → List Addr) : Prop where
  z : Same Z H
  f : Same F H
  sl : ∀ i, getS δ i ≠ .emp → ∃ v, σ[i]? = some (some v) ∧ SlR K Z H (getS δ i) v (ow i)
  em : ∀ i, getS δ i = .emp → ow i = []
  dj : ∀ i j a, a ∈ ow i → a ∈ ow j → i = j
  fr : ∀ i a, a ∈ ow i → Z a = none ∧ F a = none
  ln : δ.length = σ.length
  tb : LamX.Tabs Tl H
  nz : ∀ a ps, Z a ≠ some (.tbl ps)
  nf : ∀ a ps, F a ≠ some (.tbl ps)
/-- what is frozen grows, off the frame -/
structure Gr (Z F Z' : Hp) : Prop where
  s : Same Z Z'
  n : ∀ a, Z a = none → F a ≠ none → Z' a = none
theorem Gr.refl (Z F : Hp) : Gr Z F Z := ⟨Same.refl _, fun _ h _ => h⟩
theorem Gr.trans {Z F Z1 F1 Z2 : Hp} (a : Gr Z F Z1) (f : Same F F1) (b : Gr Z1 F1 Z2) : Gr Z F Z2 :=
  ⟨a.s.trans b.s, fun c h1 h2 => b.n c (a.n c h1 h2) (by
    cases q : F c with
    | none => exact absurd q h2
    | some o => rw [f c o q]; simp)⟩
theorem slot_ne {δ : Sts} {i : Nat} (h : getS δ i ≠ .emp) : i < δ.length := by
  by_cases c : i < δ.length
  · exact c
  · refine absurd ?_ h
    unfold getS
    rw [List.getD_eq_getElem?_getD, List.getElem?_eq_none (by omega)]; rfl
theorem getS_set {δ : Sts} {i j : Nat} {s : Slot} (h : i < δ.length) : getS (δ.set i s) j = if j = i then s else getS δ j := by
  unfold getS
  by_cases c : j = i
  · subst c
    rw [if_pos rfl, List.getD_eq_getElem?_getD, List.getElem?_set_self h]; rfl
  · rw [if_neg c, List.getD_eq_getElem?_getD, List.getElem?_set_ne (Ne.symm c), ← List.getD_eq_getElem?_getD]
theorem isOwn_ne {o : HO} (h : isOwn o = true) (ps : Array Value) : o ≠ .tbl ps := fun e => by rw [e] at h; cases h
/-- a tracked own thing is written: the tables stand -/
theorem tabs_upd {Tl : List (Addr × Str)} {H : Hp} {a : Addr} {o o' : HO} (t : LamX.Tabs Tl H) (h : H a = some o) (m : isOwn o = true) : LamX.Tabs Tl (upd H a o') := fun p hp => by
  obtain ⟨ps, h1, h2, h3⟩ := t p hp
  refine ⟨ps, ?_, h2, fun pos cv hc => ?_⟩
  · rw [upd_ne]; exact h1
    rintro rfl
    rw [h] at h1; exact isOwn_ne m ps (Option.some.inj h1)
  · obtain ⟨c, e1, e2⟩ := h3 pos cv hc
    refine ⟨c, e1, ?_⟩
    rw [upd_ne]; exact e2
    rintro rfl
    rw [h] at e2
    have e3 := Option.some.inj e2
    rw [e3] at m
    unfold LamX.CodeO at m
    cases m
section
variable {K : PySem.W.Frag} {Tl : List (Addr × Str)} {Z F F' Z' : Hp} {δ : Sts} {σ : L2.St} {H H' : Hp} {ow : Nat → List Addr}
theorem StR.own (st : StR K Tl Z F δ σ H ow) {i : Nat} {a : Addr} (m : a ∈ ow i) : ∃ o, H a = some o ∧ isOwn o = true := by
  by_cases c : getS δ i = .emp
  · rw [st.em i c] at m; cases m
  · obtain ⟨v, _, h⟩ := st.sl i c
    exact h.mem a m
theorem StR.same (st : StR K Tl Z F δ σ H ow) (h : Same H H') : StR K Tl Z F δ σ H' ow :=
  ⟨st.z.trans h, st.f.trans h, fun i c => let ⟨v, e, q⟩ := st.sl i c; ⟨v, e, q.same (Same.refl _) h⟩, st.em, st.dj, st.fr, st.ln, st.tb.ext h, st.nz, st.nf⟩
theorem StR.drop (st : StR K Tl Z F' δ σ H ow) (h : Same F F') : StR K Tl Z F δ σ H ow :=
  ⟨st.z, h.trans st.f, st.sl, st.em, st.dj, fun i a m => ⟨(st.fr i a m).1, h.free (st.fr i a m).2⟩, st.ln, st.tb, st.nz, fun a ps e => st.nf a ps (h _ _ e)⟩
/-- what is tracked and no name's own goes into the frame -/
theorem StR.addF (st : StR K Tl Z F δ σ H ow) (h : Same F F') (h' : Same F' H) (n : ∀ i a, a ∈ ow i → F' a = none) (t : ∀ a ps, F' a ≠ some (.tbl ps)) : StR K Tl Z F' δ σ H ow :=
  ⟨st.z, h', st.sl, st.em, st.dj, fun i a m => ⟨(st.fr i a m).1, n i a m⟩, st.ln, st.tb, st.nz, t⟩
theorem StR.addZ (st : StR K Tl Z F δ σ H ow) (h : Same Z Z') (h' : Same Z' H) (n : ∀ i a, a ∈ ow i → Z' a = none) (t : ∀ a ps, Z' a ≠ some (.tbl ps)) : StR K Tl Z' F δ σ H ow :=
  ⟨h', st.f, fun i c => let ⟨v, e, q⟩ := st.sl i c; ⟨v, e, q.same h (Same.refl _)⟩, st.em, st.dj, fun i a m => ⟨n i a m, (st.fr i a m).2⟩, st.ln, st.tb, t, st.nf⟩
theorem StR.new_not (st : StR K Tl Z F δ σ H ow) {p : Addr} (hp : H p = none) : (∀ i, p ∉ ow i) ∧ Z p = none ∧ F p = none :=
  ⟨fun i m => (by obtain ⟨o, e, _⟩ := st.own m; rw [hp] at e; cases e), st.z.free hp, st.f.free hp⟩
theorem same_upd {H : Hp} {p : Addr} {o : HO} (hp : H p = none) : Same H (upd H p o) := fun b u e => by rw [upd_ne (ne_of_none e hp)]; exact e
/-- a new object that never changes -/
theorem StR.newZ (st : StR K Tl Z F δ σ H ow) {p : Addr} {o : HO} (hp : H p = none) (t : ∀ ps, o ≠ .tbl ps) : StR K Tl (upd Z p o) F δ σ (upd H p o) ow := by
  obtain ⟨n1, n2, n3⟩ := st.new_not hp
  refine (st.same (same_upd hp)).addZ (same_upd n2) (fun b u e => ?_) (fun i a m => ?_) fun a ps => ?_
  · by_cases c : b = p
    · subst c; rw [upd_same] at e ⊢; exact e
    · rw [upd_ne c] at e ⊢; exact st.z _ _ e
  · rw [upd_ne (fun z : a = p => n1 i (z ▸ m))]; exact (st.fr i a m).1
  · by_cases c : a = p
    · subst c; rw [upd_same]; intro z; exact t ps (Option.some.inj z)
    · rw [upd_ne c]; exact st.nz a ps
/-- a new object, into the frame -/
theorem StR.newF (st : StR K Tl Z F δ σ H ow) {p : Addr} {o : HO} (hp : H p = none) (t : ∀ ps, o ≠ .tbl ps) : StR K Tl Z (upd F p o) δ σ (upd H p o) ow := by
  obtain ⟨n1, n2, n3⟩ := st.new_not hp
  refine (st.same (same_upd hp)).addF (same_upd n3) (fun b u e => ?_) (fun i a m => ?_) fun a ps => ?_
  · by_cases c : b = p
    · subst c; rw [upd_same] at e ⊢; exact e
    · rw [upd_ne c] at e ⊢; exact st.f _ _ e
  · rw [upd_ne (fun z : a = p => n1 i (z ▸ m))]; exact (st.fr i a m).2
  · by_cases c : a = p
    · subst c; rw [upd_same]; intro z; exact t ps (Option.some.inj z)
    · rw [upd_ne c]; exact st.nf a ps
theorem Gr.new (hZ : Z p = none) (hF : F p = none) {o : HO} : Gr Z F (upd Z p o) :=
  ⟨same_upd hZ, fun a h1 h2 => by rw [upd_ne (fun z : a = p => h2 (z ▸ hF))]; exact h1⟩
end
/-! ### what an expression gives -/
/-- F0: the frame ahead; own things stand in the frame F, new -/
def RvR (K : PySem.W.Frag) (F0 Z F H : Hp) (σ : L2.St) : RV → V → Prop
  | .dat d, v => Rp K Z v d
  | .own s, v => ∃ B, SlR K Z F s v B ∧ ∀ a ∈ B, Z a = none ∧ F0 a = none
  | .loc i, v => σ[i]? = some (some v)
  | .inn ds, v => ∃ a vs, v = .ref a ∧ H a = some (.lst vs) ∧ RpL K Z vs ds
def isInn : RV → Bool
  | .inn _ => true
  | _ => false
section
variable {K : PySem.W.Frag} {Tl : List (Addr × Str)} {F0 Z F Z' F' H H' : Hp} {δ : Sts} {σ : L2.St} {ow : Nat → List Addr}
theorem RvR.mono (g : Gr Z F Z') (f : Same F F') : ∀ {r : RV} {v : V}, (isInn r = true → Same H H') → RvR K F0 Z F H σ r v → RvR K F0 Z' F' H' σ r v
  | .dat d, v, _, h => Rp.mono g.s h
  | .own s, v, _, ⟨B, h, n⟩ => ⟨B, h.same g.s f, fun a m => ⟨g.n a (n a m).1 (by obtain ⟨o, e, _⟩ := h.mem a m; rw [e]; simp), (n a m).2⟩⟩
  | .loc i, v, _, h => h
  | .inn ds, v, s, ⟨a, vs, e1, e2, r⟩ => ⟨a, vs, e1, s rfl _ _ e2, r.mono g.s⟩
/-- as it stands -/
def ViR (K : PySem.W.Frag) (Z H : Hp) (s : Slot) (v : V) : Prop := ∃ B, SlR K Z H s v B
theorem RvR.view (st : StR K Tl Z F δ σ H ow) : ∀ {r : RV} {v : V}, RvR K F0 Z F H σ r v → Ev.view r δ ≠ .emp → ViR K Z H (Ev.view r δ) v
  | .dat d, v, h, _ => ⟨[], h, rfl⟩
  | .own s, v, ⟨B, h, _⟩, _ => ⟨B, h.same (Same.refl _) st.f⟩
  | .loc i, v, h, n => by
    obtain ⟨u, e, q⟩ := st.sl i n
    have h : σ[i]? = some (some v) := h
    rw [h] at e
    cases e
    exact ⟨_, q⟩
  | .inn ds, v, ⟨a, vs, e1, e2, r⟩, _ => ⟨[a], a, vs, e1, e2, r, rfl⟩
end
/-- behind an expression -/
def PostE (K : PySem.W.Frag) (Tl : List (Addr × Str)) (Z F : Hp) (δ' : Sts) (σ : L2.St) (H : Hp) (r : RV) (q : Bool) (v : V) (H' : Hp) : Prop :=
  ∃ Z' F' ow', Gr Z F Z' ∧ Same F F' ∧ StR K Tl Z' F' δ' σ H' ow' ∧ RvR K F Z' F' H' σ r v ∧ (q = true → Same H H')
/-- the state alone -/
def PostS (K : PySem.W.Frag) (Tl : List (Addr × Str)) (Z F : Hp) (δ' : Sts) (σ : L2.St) (H' : Hp) : Prop := ∃ Z' ow', Gr Z F Z' ∧ StR K Tl Z' F δ' σ H' ow'
end Ev

set_option Elab.async false
set_option linter.all false
set_option maxRecDepth 100000
set_option maxHeartbeats 4000000
/-! The operations by values. -/
namespace Ev
open PySem PySem.Spec PyProof.Rows L2
theorem line_eq : line = sizeLine := by rw [sizeLine_eq]; rfl
theorem okLen_le {n : Nat} (h : okLen n = true) : n ≤ sizeLine := by rw [← line_eq]; exact Nat.le_of_ble_eq_true h
/-- what an operation makes: data known, or new; a new own list; the inner list -/
def NewR (K : PySem.W.Frag) (Z H : Hp) : RV → V → Hp → Prop
  | .dat d, v, H' => (H' = H ∧ Rp K Z v d) ∨ ∃ p o, H p = none ∧ H' = upd H p o ∧ (∀ ps, o ≠ .tbl ps) ∧ Rp K (upd Z p o) v d
  | .own (.lst ds), v, H' => ∃ p vs, H p = none ∧ H' = upd H p (.lst vs) ∧ v = .ref p ∧ RpL K Z vs ds
  | .inn ds, v, H' => H' = H ∧ ∃ a vs, v = .ref a ∧ H a = some (.lst vs) ∧ RpL K Z vs ds
  | _, _, _ => False
section
variable {K : PySem.W.Frag} {Tl : List (Addr × Str)} {Z F Z1 F1 H0 H1 H2 : Hp} {δ : Sts} {σ : L2.St} {ow : Nat → List Addr} {r : RV} {v : V}
theorem new_post {q : Bool} (st : StR K Tl Z1 F1 δ σ H1 ow) (g : Gr Z F Z1) (f : Same F F1) (hq : q = true → Same H0 H1) (n : NewR K Z1 H1 r v H2) : PostE K Tl Z F δ σ H0 r q v H2 := by
  cases r with
  | dat d =>
    rcases n with ⟨rfl, n⟩ | ⟨p, o, hp, rfl, ho, n⟩
    · exact ⟨Z1, F1, ow, g, f, st, n, hq⟩
    · obtain ⟨n1, n2, n3⟩ := st.new_not hp
      exact ⟨_, F1, ow, g.trans f (Gr.new n2 n3), f, st.newZ hp ho, n, fun h => (hq h).trans (same_upd hp)⟩
  | own s =>
    cases s with
    | lst ds =>
      obtain ⟨p, vs, hp, rfl, rfl, n⟩ := n
      obtain ⟨n1, n2, n3⟩ := st.new_not hp
      refine ⟨Z1, upd F1 p (.lst vs), ow, g, f.trans (same_upd n3), st.newF hp (fun ps e => by cases e), ⟨[p], ⟨p, vs, rfl, upd_same, n, rfl⟩, fun a m => ?_⟩, fun h => (hq h).trans (same_upd hp)⟩
      cases List.mem_singleton.mp m
      exact ⟨n2, f.free n3⟩
    | _ => exact n.elim
  | loc i => exact n.elim
  | inn ds =>
    obtain ⟨rfl, a, vs, e1, e2, n⟩ := n
    exact ⟨Z1, F1, ow, g, f, st, ⟨a, vs, e1, e2, n⟩, hq⟩
end
/-! ### tuple * 1 -/
theorem tuple_mul1 (l : Addr) (items : Array Value) (n : Nat) (dd : Option Addr) (sl : Array (Option Value)) (u : Tok) :
    Meets (Builtin.«tuple.__mul__» ⟨[.ref l, .int 1 u], []⟩) (fun _ R s => s.heap.get? l = some { cls := .type "tuple", dict := dd, data := .seq items n, slots := sl } ∧
      R (.ok (.ret (Value.ref l))) s) :=
  .of_wp fun prog w A R s h => by
    obtain ⟨hp, g, d, tk, os⟩ := s
    obtain ⟨hl, h⟩ := h
    have f1 := AutoSeq1.idx_int
    have c1 : (items.isEmpty || (1 : Int) == 1) = true := by simp
    wp_walk using wpAny_loadPart' hl
    repeat (first
      | (refine wpAny_ite_false (by decide) ?_; wp_walk using wpAny_loadPart' hl)
      | (refine wpAny_ite_true (by rw [c1]) ?_; wp_walk using wpAny_loadPart' hl))
    first | exact ⟨_, rfl, h⟩ | exact h
section
variable {X : Cx}
theorem op_repT1 : OpR X (binaryOp .Mult) (fun x y H Q => ∃ l xs, x = .ref l ∧ y = .int 1 ∧ SqT X.K H l xs ∧ Q (.ref l) H) := by
  intro pins s σ H x y v u Q I rx ry h
  obtain ⟨l, xs, rfl, rfl, hT, q⟩ := h
  cases rx
  obtain ⟨t, rfl⟩ := ry
  obtain ⟨its, r, ⟨⟨cls, dd, data, sl⟩, ho, hc, n, hd⟩, hs⟩ := I.tuple hT
  simp only at hc hd
  subst hc hd
  refine wpAny_binaryOp_repeat_ref (T := "tuple") (U := "int") (by decide) ⟨_, ho, rfl⟩ (fun s' => typeIs_int s' 1 t) noFill_tuple_mul F.fills_int_mul F.slot_int_rmul repeat_tuple F.slot_int_index.lookup
    (call_meets F.slot_int_rmul (typeIs_int s 1 t) F.entry_int_rmul (F.args_int_rmul_2 _ _) (int_rmul_tuple 1 t l its.toArray n dd sl)
      ⟨ho, rfl, ⟨_, ho, rfl⟩, call_meets F.slot_tuple_mul ⟨_, ho, rfl⟩ F.entry_tuple_mul (F.args_tuple_mul_2 _ _) (tuple_mul1 l its.toArray n dd sl t) ⟨ho, ?_⟩⟩)
  exact ⟨.ref l, H, I, rfl, q⟩
end

def opOf : Op → Operator
  | .add => .Add
  | .sub => .Sub
  | .mul => .Mult
  | .fdiv => .FloorDiv
  | .mod => .Mod
  | .pow => .Pow
def rOpV (K : PySem.W.Frag) (op : Op) : R2 := fun x y H Q => ∃ (Z : Hp) (s t : Slot) (r : RV), Same Z H ∧ ViR K Z H s x ∧ ViR K Z H t y ∧ opV op s t = some r ∧ ∀ v H', NewR K Z H r v H' → Q v H'
theorem ViR.int {K : PySem.W.Frag} {Z H : Hp} {i : Int} {v : V} (h : ViR K Z H (.dat (.int i)) v) : v = .int i := by
  obtain ⟨B, h, _⟩ := h
  cases h; rfl
theorem ViR.str {K : PySem.W.Frag} {Z H : Hp} {i : Str} {v : V} (h : ViR K Z H (.dat (.str i)) v) : v = .str i := by
  obtain ⟨B, h, _⟩ := h
  cases h; rfl
theorem ViR.bool {K : PySem.W.Frag} {Z H : Hp} {i : Bool} {v : V} (h : ViR K Z H (.dat (.bool i)) v) : v = .bl i := by
  obtain ⟨B, h, _⟩ := h
  cases h; rfl
theorem ViR.none {K : PySem.W.Frag} {Z H : Hp} {v : V} (h : ViR K Z H (.dat .none) v) : v = .non := by
  obtain ⟨B, h, _⟩ := h
  cases h; rfl
theorem ViR.tup {K : PySem.W.Frag} {Z H : Hp} {ds : List D} {v : V} (hz : Same Z H) (h : ViR K Z H (.dat (.tuple ds)) v) : ∃ a vs, v = .ref a ∧ Z a = some (.tup vs) ∧ H a = some (.tup vs) ∧ RpL K Z vs ds := by
  obtain ⟨B, h, _⟩ := h
  cases h with
  | tup h r => exact ⟨_, _, rfl, h, hz _ _ h, r⟩
theorem ViR.lst {K : PySem.W.Frag} {Z H : Hp} {ds : List D} {v : V} (hz : Same Z H) (h : ViR K Z H (.dat (.list ds)) v ∨ ViR K Z H (.lst ds) v) : ∃ a vs, v = .ref a ∧ H a = some (.lst vs) ∧ RpL K Z vs ds := by
  rcases h with ⟨B, h, _⟩ | ⟨B, a, vs, e1, e2, r, _⟩
  · cases h with
    | lst h r => exact ⟨_, _, rfl, hz _ _ h, r⟩
  · exact ⟨a, vs, e1, e2, r⟩
theorem new_tup {K : PySem.W.Frag} {Z H : Hp} {ds : List D} {vs : List V} {p : Addr} (hz : Same Z H) (hp : H p = none) (r : RpL K Z vs ds) : NewR K Z H (.dat (.tuple ds)) (.ref p) (upd H p (.tup vs)) :=
  .inr ⟨p, _, hp, rfl, fun ps e => (by cases e), .tup upd_same (r.mono (same_upd (hz.free hp)))⟩
theorem op_len_le {n m : Nat} (h : okLen (n + m) = true) {K : PySem.W.Frag} {Z : Hp} {vs us : List V} {ds es : List D} (r : RpL K Z vs ds) (s : RpL K Z us es) (e1 : n = ds.length) (e2 : m = es.length) : vs.length + us.length ≤ sizeLine := by
  rw [r.len, s.len, ← e1, ← e2]; exact okLen_le h
section
variable {X : Cx}
theorem opV_ok (op : Op) : OpR X (binaryOp (opOf op)) (rOpV X.K op) := by
  intro pins s σ H x y v u Q I rx ry ⟨Z, a, b, r, hz, ha, hb, e, q⟩
  have cat : ∀ {ds es : List D}, (∃ a vs, x = .ref a ∧ H a = some (.lst vs) ∧ RpL X.K Z vs ds) → (∃ a vs, y = .ref a ∧ H a = some (.lst vs) ∧ RpL X.K Z vs es) → okLen (ds.length + es.length) = true →
      (∀ v H', NewR X.K Z H (.own (.lst (ds ++ es))) v H' → Q v H') → wpAny (model X.prog X.w) X.A (binaryOp .Add v u) (EP X pins σ Q) X.xe s := fun ⟨a, vs, e1, h1, r1⟩ ⟨b, us, e2, h2, r2⟩ hl q =>
    op_cat pins s σ H x y v u Q I rx ry ⟨a, b, vs, us, e1, e2, h1, h2, op_len_le hl r1 r2 rfl rfl, fun p hp => q _ _ ⟨p, _, hp, rfl, rfl, r1.app r2⟩⟩
  have rep : ∀ {ds : List D} {k : Int}, (∃ a vs, x = .ref a ∧ H a = some (.lst vs) ∧ RpL X.K Z vs ds) → y = .int k → (decide (-(2 ^ 63) ≤ k) && decide (k < 2 ^ 63) && okLen (ds.length * k.toNat)) = true →
      (∀ v H', NewR X.K Z H (.own (.lst (repL ds k))) v H' → Q v H') → wpAny (model X.prog X.w) X.A (binaryOp .Mult v u) (EP X pins σ Q) X.xe s := fun {ds k} ⟨a, vs, e1, h1, r1⟩ e2 hl q => by
    simp only [Bool.and_eq_true, decide_eq_true_eq] at hl
    exact op_rep pins s σ H x y v u Q I rx ry ⟨a, k, vs, e1, e2, h1, hl.1.1, hl.1.2, by rw [r1.len]; exact okLen_le hl.2, fun p hp => q _ _ ⟨p, _, hp, rfl, rfl, r1.rep _⟩⟩
  cases op with
  | add =>
    simp only [opV] at e
    split at e
    · cases e
      exact op_add pins s σ H x y v u Q I rx ry ⟨_, _, ha.int, hb.int, q _ _ (.inl ⟨rfl, .int _⟩)⟩
    · split at e
      · cases e
        exact op_add_str pins s σ H x y v u Q I rx ry ⟨_, _, ha.str, hb.str, okLen_le (by assumption), q _ _ (.inl ⟨rfl, .str _⟩)⟩
      · cases e
    · split at e
      · cases e
        rename_i ds es hl
        obtain ⟨a', vs, e1, z1, h1, r1⟩ := ha.tup hz
        obtain ⟨b', us, e2, z2, h2, r2⟩ := hb.tup hz
        refine op_catA pins s σ H x y v u Q I rx ry ⟨a', b', vs, us, e1, e2, SqT.of h1, SqT.of h2, op_len_le hl r1 r2 rfl rfl, fun e => ?_, fun _ e => ?_, fun _ _ p hp => q _ _ (new_tup hz hp (r1.app r2))⟩
        · subst e
          cases r1
          exact q _ _ (.inl ⟨rfl, .tup z2 r2⟩)
        · subst e
          cases r2
          exact q _ _ (.inl ⟨rfl, .tup z1 (by rw [List.append_nil]; exact r1)⟩)
      · cases e
    · split at e
      · cases e
        exact cat (ViR.lst hz (.inl ha)) (ViR.lst hz (.inl hb)) (by assumption) q
      · cases e
    · split at e
      · cases e
        exact cat (ViR.lst hz (.inr ha)) (ViR.lst hz (.inl hb)) (by assumption) q
      · cases e
    · split at e
      · cases e
        exact cat (ViR.lst hz (.inl ha)) (ViR.lst hz (.inr hb)) (by assumption) q
      · cases e
    · split at e
      · cases e
        exact cat (ViR.lst hz (.inr ha)) (ViR.lst hz (.inr hb)) (by assumption) q
      · cases e
    · cases e
  | sub =>
    simp only [opV] at e
    split at e
    · cases e
      exact op_sub pins s σ H x y v u Q I rx ry ⟨_, _, ha.int, hb.int, q _ _ (.inl ⟨rfl, .int _⟩)⟩
    · cases e
  | mul =>
    simp only [opV] at e
    split at e
    · split at e
      · cases e
        rename_i i j hm
        refine op_mul pins s σ H x y v u Q I rx ry ⟨_, _, ha.int, hb.int, ?_, q _ _ (.inl ⟨rfl, .int _⟩)⟩
        simp only [mulOk, Bool.or_eq_true, Bool.and_eq_true, decide_eq_true_eq] at hm
        exact hm
      · cases e
    · split at e
      · cases e
        rename_i ds k hm
        simp only [Bool.and_eq_true, decide_eq_true_eq, Bool.not_eq_true', Nat.ble_eq] at hm
        obtain ⟨⟨⟨h1, h2⟩, h3⟩, h4⟩ := hm
        obtain ⟨a', vs, e1, z1, hh, r1⟩ := ha.tup hz
        by_cases hk : k = 1
        · subst hk
          refine op_repT1 pins s σ H x y v u Q I rx ry ⟨a', vs, e1, hb.int, SqT.of hh, q _ _ (.inl ⟨rfl, ?_⟩)⟩
          have e : repL ds 1 = ds := by simp [repL]
          rw [e]
          exact .tup z1 r1
        · refine op_repT pins s σ H x y v u Q I rx ry ⟨a', k, vs, e1, hb.int, SqT.of hh, fun z => ?_, by omega, h3, by rw [r1.len]; exact h4, fun p hp => q _ _ (new_tup hz hp (r1.rep _))⟩
          subst z
          cases r1
          simp at h1
      · cases e
    · split at e
      · cases e
        exact rep (ViR.lst hz (.inl ha)) hb.int (by assumption) q
      · cases e
    · split at e
      · cases e
        exact rep (ViR.lst hz (.inr ha)) hb.int (by assumption) q
      · cases e
    · cases e
  | fdiv =>
    simp only [opV] at e
    split at e
    · split at e
      · cases e
        rename_i i j hm
        simp only [Bool.and_eq_true, decide_eq_true_eq] at hm
        exact op_fdivW pins s σ H x y v u Q I rx ry ⟨_, _, ha.int, hb.int, wide_div (b := 200) hm.1 (by have := hm.2; omega) (by decide) (by decide), q _ _ (.inl ⟨rfl, .int _⟩)⟩
      · cases e
    · cases e
  | mod =>
    simp only [opV] at e
    split at e
    · split at e
      · cases e
        rename_i i j hm
        exact op_mod pins s σ H x y v u Q I rx ry ⟨_, _, ha.int, hb.int, of_decide_eq_true hm, q _ _ (.inl ⟨rfl, .int _⟩)⟩
      · cases e
    · cases e
  | pow =>
    simp only [opV] at e
    split at e
    · split at e
      · cases e
        rename_i i j hm
        simp only [Bool.and_eq_true, decide_eq_true_eq] at hm
        exact op_pow pins s σ H x y v u Q I rx ry ⟨_, _, ha.int, hb.int, ⟨hm.1.1, by omega, hm.2⟩, q _ _ (.inl ⟨rfl, .int _⟩)⟩
      · cases e
    · cases e
end

/-! ### comparisons -/
def cmpOf : Cmp → CmpOp
  | .eq => .Eq
  | .ne => .NotEq
  | .lt => .Lt
  | .le => .LtE
  | .gt => .Gt
  | .ge => .GtE
  | .isin => .In
  | .notin => .NotIn
  | .isNone => .Is
  | .notNone => .IsNot
  | .is => .Is
  | .isnot => .IsNot
theorem rows_dp {K : PySem.W.Frag} {Z H : Hp} (hz : Same Z H) : ∀ {as : List Addr} {dss : List (List D)}, RowsR K Z H as dss → DpAll K H (as.map V.ref) (dss.map PyData.list)
  | [], [], _ => .nil
  | a :: as, ds :: dss, ⟨⟨vs, e, r⟩, t⟩ => .cons (.lst (SqL.of e) (r.mono hz).dp) (rows_dp hz t)
  | [], _ :: _, h => h.elim
  | _ :: _, [], h => h.elim
theorem ViR.dp {K : PySem.W.Frag} {Z H : Hp} {s : Slot} {v : V} {d : D} (hz : Same Z H) (h : ViR K Z H s v) (e : frz s = some d) : Dp K H v d := by
  obtain ⟨B, h⟩ := h
  cases s with
  | dat d' => cases e; exact (h.1.mono hz).dp
  | lst ds =>
    cases e
    obtain ⟨a, vs, rfl, e2, r, _⟩ := h
    exact .lst (SqL.of e2) (r.mono hz).dp
  | rows dss =>
    cases e
    obtain ⟨a, as, rfl, e2, r, _⟩ := h
    exact .lst (SqL.of e2) (rows_dp hz r)
  | _ => cases e
theorem keys_of {K : PySem.W.Frag} {Z : Hp} : ∀ {vs : List V} {ds : List D} {ks : List Key}, RpL K Z vs ds → keysOf ds = some ks → vs = ks.map kV
  | _, _, ks, .nil, e => by cases e; rfl
  | _, _, ks, .cons h r, e => by
    rename_i v vs d ds
    simp only [keysOf] at e
    split at e
    · rename_i k ks' h1 h2
      cases e
      rw [List.map_cons, keys_of r h2]
      cases h <;> first | (cases h1; rfl) | cases h1
    · cases e
theorem key_of {K : PySem.W.Frag} {Z : Hp} {v : V} {d : D} {k : Key} (h : Rp K Z v d) (e : keyOf d = some k) : v = kV k := by
  cases h <;> first | (cases e; rfl) | cases e
theorem ViR.dget {K : PySem.W.Frag} {Z H : Hp} {kvs : List (Key × D)} {x : V} {k : Key} (hz : Same Z H) (h : ViR K Z H (.dK kvs) x) :
    ∃ a o, x = .ref a ∧ DGet H a (kV k) o ∧ o.isSome = (lookA kvs k).isSome ∧ ∀ d, lookA kvs k = some d → ∃ v, o = some v ∧ Rp K Z v d := by
  obtain ⟨B, a, ps, rfl, e2, r, _⟩ := h
  obtain ⟨h1, h2⟩ := r.look k
  refine ⟨a, valV ps k, rfl, DGet.k e2, ?_, fun d e => ?_⟩
  · cases q : lookA kvs k with
    | none => rw [h2 q]; rfl
    | some d => obtain ⟨v, e, _⟩ := h1 d q; rw [e]; rfl
  · obtain ⟨v, e, h⟩ := h1 d e; exact ⟨v, e, h⟩
theorem ViR.dgetT {K : PySem.W.Frag} {Z H : Hp} {kvs : List (List Key × D)} {x y : V} {ds : List D} {k : List Key} (hz : Same Z H) (h : ViR K Z H (.dT kvs) x) (hy : ViR K Z H (.dat (.tuple ds)) y) (ek : keysOf ds = some k) :
    ∃ a o, x = .ref a ∧ DGet H a y o ∧ o.isSome = (lookA kvs k).isSome ∧ ∀ d, lookA kvs k = some d → ∃ v, o = some v ∧ Rp K Z v d := by
  obtain ⟨B, a, ps, rfl, e2, r, _⟩ := h
  obtain ⟨b, vs, rfl, _, hb, r2⟩ := hy.tup hz
  have e3 := keys_of r2 ek
  subst e3
  obtain ⟨h1, h2⟩ := r.look k
  refine ⟨a, valV ps k, rfl, DGet.t e2 hb, ?_, fun d e => ?_⟩
  · cases q : lookA kvs k with
    | none => rw [h2 q]; rfl
    | some d => obtain ⟨v, e, _⟩ := h1 d q; rw [e]; rfl
  · obtain ⟨v, e, h⟩ := h1 d e; exact ⟨v, e, h⟩
theorem flat_of {K : PySem.W.Frag} {Z : Hp} {v : V} {d : D} (h : Rp K Z v d) (f : flatD d = true) : flatV v = true := by
  cases h <;> first | rfl | cases f
theorem flats_of {K : PySem.W.Frag} {Z : Hp} : ∀ {vs : List V} {ds : List D}, RpL K Z vs ds → ds.all flatD = true → vs.all flatV = true
  | _, _, .nil, _ => rfl
  | _, _, .cons h r, f => by
    rw [List.all_cons, Bool.and_eq_true] at f
    rw [List.all_cons, flat_of h f.1, flats_of r f.2]; rfl
theorem eqV_of {K : PySem.W.Frag} {Z : Hp} {v w : V} {d e : D} (h : Rp K Z v d) (f : flatD d = true) (g : Rp K Z w e) (f' : flatD e = true) : L2.eqV v w = PyData.eqv d e := by
  cases h <;> first
    | (cases g <;> first | (simp [L2.eqV, PyData.eqv]; done) | cases f' | (simp [L2.eqV, PyData.eqv] <;> rfl))
    | cases f
theorem any_of {K : PySem.W.Frag} {Z : Hp} {w : V} {e : D} (g : Rp K Z w e) (f' : flatD e = true) : ∀ {vs : List V} {ds : List D}, RpL K Z vs ds → ds.all flatD = true → (vs.any fun y => L2.eqV y w) = ds.any fun z => PyData.eqv z e
  | _, _, .nil, _ => rfl
  | _, _, .cons h r, f => by
    rw [List.all_cons, Bool.and_eq_true] at f
    rw [List.any_cons, List.any_cons, eqV_of h f.1 g f', any_of g f' r f.2]
def rCmpV (K : PySem.W.Frag) (op : Cmp) : R2 := fun x y H Q => ∃ (Z : Hp) (s t : Slot) (c : Bool), Same Z H ∧ ViR K Z H s x ∧ ViR K Z H t y ∧ cmpV op s t = some c ∧ Q (.bl c) H
section
variable {X : Cx}
theorem in_ok (hu : X.A.units + 65 < cLine) : OpR X (compareOp .In) (fun x y H Q => ∃ (Z : Hp) (s t : Slot) (c : Bool), Same Z H ∧ ViR X.K Z H s x ∧ ViR X.K Z H t y ∧ Ev.inV s t = some c ∧ Q (.bl c) H) := by
  intro pins s σ H x y v u Q I rx ry ⟨Z, a, b, c, hz, ha, hb, e, q⟩
  unfold Ev.inV at e
  split at e
  · split at e
    · rename_i kvs d
      cases k0 : keyOf d with
      | none => rw [k0] at e; cases e
      | some k =>
        rw [k0] at e
        cases e
        obtain ⟨B, ha, _⟩ := ha
        have e3 := key_of ha k0
        subst e3
        obtain ⟨p, o, rfl, g, e4, _⟩ := hb.dget (k := k) hz
        cases ry
        exact d_in (by omega) I g rx fun s' I' => ⟨.bl o.isSome, H, I', rfl, by rw [e4]; exact q⟩
    · cases e
  · split at e
    · rename_i kvs ds
      cases k0 : keysOf ds with
      | none => rw [k0] at e; cases e
      | some k =>
        rw [k0] at e
        cases e
        obtain ⟨p, o, rfl, g, e4, _⟩ := hb.dgetT hz ha k0
        cases ry
        exact d_in (by omega) I g rx fun s' I' => ⟨.bl o.isSome, H, I', rfl, by rw [e4]; exact q⟩
    · cases e
  · split at e
    · split at e
      · cases e
        rename_i ds d hf
        rw [Bool.and_eq_true] at hf
        obtain ⟨p, vs, rfl, _, hp, r⟩ := hb.tup hz
        obtain ⟨B, ha, _⟩ := ha
        refine op_in_seq pins s σ H x _ v u Q I rx ry ⟨p, vs, rfl, .inr (SqT.of hp), flat_of ha hf.1, flats_of r hf.2, ?_⟩
        show Q (.bl (vs.any fun y => L2.eqV y x)) H
        rw [any_of ha hf.1 r hf.2]
        exact q
      · cases e
    · cases e
  · split at e
    · split at e
      · cases e
        rename_i ds _ d hf
        rw [Bool.and_eq_true] at hf
        exact op_inD hu pins s σ H x y v u Q I rx ry ⟨d, ds, ha.dp hz rfl, hb.dp hz rfl, hf.1, hf.2, q⟩
      · cases e
    · cases e
  · split at e
    · split at e
      · cases e
        rename_i ds _ d hf
        rw [Bool.and_eq_true] at hf
        exact op_inD hu pins s σ H x y v u Q I rx ry ⟨d, ds, ha.dp hz rfl, hb.dp hz rfl, hf.1, hf.2, q⟩
      · cases e
    · cases e
  · cases e
theorem notin_ok (hu : X.A.units + 65 < cLine) : OpR X (compareOp .NotIn) (fun x y H Q => ∃ (Z : Hp) (s t : Slot) (c : Bool), Same Z H ∧ ViR X.K Z H s x ∧ ViR X.K Z H t y ∧ Ev.inV s t = some c ∧ Q (.bl (!c)) H) := by
  intro pins s σ H x y v u Q I rx ry ⟨Z, a, b, c, hz, ha, hb, e, q⟩
  unfold Ev.inV at e
  split at e
  · split at e
    · rename_i kvs d
      cases k0 : keyOf d with
      | none => rw [k0] at e; cases e
      | some k =>
        rw [k0] at e
        cases e
        obtain ⟨B, ha, _⟩ := ha
        have e3 := key_of ha k0
        subst e3
        obtain ⟨p, o, rfl, g, e4, _⟩ := hb.dget (k := k) hz
        cases ry
        exact d_notIn (by omega) I g rx fun s' I' => ⟨.bl (!o.isSome), H, I', rfl, by rw [e4]; exact q⟩
    · cases e
  · split at e
    · rename_i kvs ds
      cases k0 : keysOf ds with
      | none => rw [k0] at e; cases e
      | some k =>
        rw [k0] at e
        cases e
        obtain ⟨p, o, rfl, g, e4, _⟩ := hb.dgetT hz ha k0
        cases ry
        exact d_notIn (by omega) I g rx fun s' I' => ⟨.bl (!o.isSome), H, I', rfl, by rw [e4]; exact q⟩
    · cases e
  · split at e
    · split at e
      · cases e
        rename_i ds d hf
        rw [Bool.and_eq_true] at hf
        obtain ⟨p, vs, rfl, _, hp, r⟩ := hb.tup hz
        obtain ⟨B, ha, _⟩ := ha
        refine op_notIn_seq pins s σ H x _ v u Q I rx ry ⟨p, vs, rfl, .inr (SqT.of hp), flat_of ha hf.1, flats_of r hf.2, ?_⟩
        show Q (.bl (!vs.any fun y => L2.eqV y x)) H
        rw [any_of ha hf.1 r hf.2]
        exact q
      · cases e
    · cases e
  · split at e
    · split at e
      · cases e
        rename_i ds _ d hf
        rw [Bool.and_eq_true] at hf
        exact op_notInD hu pins s σ H x y v u Q I rx ry ⟨d, ds, ha.dp hz rfl, hb.dp hz rfl, hf.1, hf.2, q⟩
      · cases e
    · cases e
  · split at e
    · split at e
      · cases e
        rename_i ds _ d hf
        rw [Bool.and_eq_true] at hf
        exact op_notInD hu pins s σ H x y v u Q I rx ry ⟨d, ds, ha.dp hz rfl, hb.dp hz rfl, hf.1, hf.2, q⟩
      · cases e
    · cases e
  · cases e
theorem rel_non {x : V} {v : Value} (r : RelV x v) (h : x ≠ .non) : v ≠ Value.none := by
  intro e
  subst e
  cases x with
  | non => exact h rfl
  | int _ => obtain ⟨t, h⟩ := r; cases h
  | str _ => obtain ⟨t, h⟩ := r; cases h
  | byt _ => obtain ⟨t, h⟩ := r; cases h
  | flt _ => obtain ⟨t, h⟩ := r; cases h
  | _ => cases r
theorem isNone_of {K : PySem.W.Frag} {Z H : Hp} {s : Slot} {x : V} {c : Bool} (h : ViR K Z H s x) (e : isNoneV s = some c) : decide (x = .non) = c := by
  obtain ⟨B, h⟩ := h
  cases s with
  | emp => cases e
  | dat d =>
    obtain ⟨h, _⟩ := h
    cases h <;> (cases e; simp)
  | lst ds => cases e; obtain ⟨a, vs, rfl, _⟩ := h; simp
  | rows dss => cases e; obtain ⟨a, vs, rfl, _⟩ := h; simp
  | dK kvs => cases e; obtain ⟨a, vs, rfl, _⟩ := h; simp
  | dT kvs => cases e; obtain ⟨a, vs, rfl, _⟩ := h; simp
  | obj C fs => exact h.elim
  | scr ns => cases e; obtain ⟨a, rfl, _⟩ := h; simp
theorem bool_beq : ∀ a b : Bool, (Value.bool a == Value.bool b) = (a == b) := by decide
theorem is_of {K : PySem.W.Frag} {Z H : Hp} {s t : Slot} {x y : V} {v u : Value} {c : Bool} (h : ViR K Z H s x) (g : ViR K Z H t y) (rx : RelV x v) (ry : RelV y u) (e : isV s t = some c) : plainIs v u = true ∧ (v == u) = c := by
  unfold isV at e
  split at e
  · have e2 := g.bool
    subst e2
    cases ry
    split at e
    · have e2 := h.bool
      subst e2
      cases rx
      cases e
      exact ⟨rfl, bool_beq _ _⟩
    · rename_i n
      cases e
      obtain ⟨B, h, _⟩ := h
      cases h with
      | non => cases rx; exact ⟨rfl, rfl⟩
      | bl b => exact absurd rfl (n b)
      | int i => obtain ⟨t, rfl⟩ := rx; exact ⟨rfl, rfl⟩
      | str i => obtain ⟨t, rfl⟩ := rx; exact ⟨rfl, rfl⟩
      | lst => cases rx; exact ⟨rfl, rfl⟩
      | tup => cases rx; exact ⟨rfl, rfl⟩
    · cases e
      obtain ⟨B, a, vs, rfl, _⟩ := h
      cases rx
      exact ⟨rfl, rfl⟩
    · cases e
  · cases e
theorem cmpV_ok (op : Cmp) (hu : X.A.units + 65 < cLine) : OpR X (compareOp (cmpOf op)) (fun x y H Q => rCmpV X.K op x y H Q) := by
  intro pins s σ H x y v u Q I rx ry ⟨Z, a, b, c, hz, ha, hb, e, q⟩
  have ord : ∀ {p : Int → Int → Bool}, ltI a b p = some c → ∃ i j, x = .int i ∧ y = .int j ∧ p i j = c := fun {p} e => by
    unfold ltI at e
    split at e
    · cases e; exact ⟨_, _, ha.int, hb.int, rfl⟩
    · cases e
  cases op with
  | eq =>
    simp only [cmpV, Ev.eqV] at e
    split at e
    · split at e
      · cases e
        rename_i d1 d2 e1 e2 hf
        rw [Bool.and_eq_true] at hf
        exact op_eqD (by omega) pins s σ H x y v u Q I rx ry ⟨_, _, ha.dp hz e1, hb.dp hz e2, hf.1, hf.2, q⟩
      · cases e
    · cases e
  | ne =>
    simp only [cmpV, Ev.eqV] at e
    split at e
    · split at e
      · cases e
        rename_i d1 d2 e1 e2 hf
        rw [Bool.and_eq_true] at hf
        exact op_neD (by omega) pins s σ H x y v u Q I rx ry ⟨_, _, ha.dp hz e1, hb.dp hz e2, hf.1, hf.2, q⟩
      · cases e
    · cases e
  | lt =>
    obtain ⟨i, j, e1, e2, e3⟩ := ord (p := fun i j => decide (i < j)) e
    exact op_lt pins s σ H x y v u Q I rx ry ⟨i, j, e1, e2, (congrArg (fun z => Q (.bl z) H) e3).mpr q⟩
  | le =>
    obtain ⟨i, j, e1, e2, e3⟩ := ord (p := fun i j => decide (i ≤ j)) e
    exact op_le pins s σ H x y v u Q I rx ry ⟨i, j, e1, e2, (congrArg (fun z => Q (.bl z) H) e3).mpr q⟩
  | gt =>
    obtain ⟨i, j, e1, e2, e3⟩ := ord (p := fun i j => decide (j < i)) e
    exact op_gt pins s σ H x y v u Q I rx ry ⟨i, j, e1, e2, (congrArg (fun z => Q (.bl z) H) e3).mpr q⟩
  | ge =>
    obtain ⟨i, j, e1, e2, e3⟩ := ord (p := fun i j => decide (j ≤ i)) e
    exact op_ge pins s σ H x y v u Q I rx ry ⟨i, j, e1, e2, (congrArg (fun z => Q (.bl z) H) e3).mpr q⟩
  | isin => exact in_ok hu pins s σ H x y v u Q I rx ry ⟨Z, a, b, c, hz, ha, hb, e, q⟩
  | notin =>
    simp only [cmpV] at e
    cases k : Ev.inV a b with
    | none => rw [k] at e; cases e
    | some k' =>
      rw [k] at e
      cases e
      exact notin_ok hu pins s σ H x y v u Q I rx ry ⟨Z, a, b, k', hz, ha, hb, k, q⟩
  | isNone =>
    simp only [cmpV] at e
    split at e
    · exact op_isN pins s σ H x y v u Q I rx ry ⟨hb.none, by rw [isNone_of ha e]; exact q⟩
    · cases e
  | notNone =>
    simp only [cmpV] at e
    split at e
    · cases k : isNoneV a with
      | none => rw [k] at e; cases e
      | some k' =>
        rw [k] at e
        cases e
        exact op_notN pins s σ H x y v u Q I rx ry ⟨hb.none, by rw [isNone_of ha k]; exact q⟩
    · cases e
  | is =>
    obtain ⟨h1, h2⟩ := is_of ha hb rx ry e
    subst h2
    exact wpAny_is_plain h1 ⟨.bl (v == u), H, I, rfl, q⟩
  | isnot =>
    simp only [cmpV] at e
    cases k : isV a b with
    | none => rw [k] at e; cases e
    | some k' =>
      rw [k] at e
      cases e
      obtain ⟨h1, h2⟩ := is_of ha hb rx ry k
      subst h2
      exact wpAny_isNot_plain h1 ⟨.bl (!(v == u)), H, I, rfl, q⟩
end

/-! ### subscripts, slices, truth -/
theorem atI_rel {K : PySem.W.Frag} {Z : Hp} {vs : List V} {ds : List D} {k : Int} {d : D} (r : RpL K Z vs ds) (e : atI ds k = some d) : ∃ v, atI vs k = some v ∧ Rp K Z v d := by
  unfold atI at e ⊢
  rw [r.len]
  cases q : ixN ds.length k with
  | none => rw [q] at e; cases e
  | some j =>
    rw [q] at e
    exact r.get e
theorem atI_rows {K : PySem.W.Frag} {Z H : Hp} {as : List Addr} {dss : List (List D)} {k : Int} {ds : List D} (r : RowsR K Z H as dss) (e : atI dss k = some ds) : ∃ a vs, atI (as.map V.ref) k = some (.ref a) ∧ H a = some (.lst vs) ∧ RpL K Z vs ds := by
  unfold atI at e ⊢
  rw [List.length_map, r.len]
  cases q : ixN dss.length k with
  | none => rw [q] at e; cases e
  | some j =>
    rw [q] at e
    obtain ⟨a, vs, h1, h2, h3⟩ := r.get e
    refine ⟨a, vs, ?_, h2, h3⟩
    show (as.map V.ref)[j]? = _
    rw [List.getElem?_map, h1]; rfl
theorem cut_whole {α : Type} {ds : List α} {lo hi : Option Int} (h : HT.sIx ds.length 0 lo = 0 ∧ HT.sIx ds.length ds.length hi = ds.length) : cutL ds lo hi = ds := by
  unfold cutL
  rw [h.1, h.2]
  simp
def rSubV (K : PySem.W.Frag) : R2 := fun x y H Q => ∃ (Z : Hp) (s t : Slot) (r : RV), Same Z H ∧ ViR K Z H s x ∧ ViR K Z H t y ∧ subV s t = some r ∧ ∀ v H', NewR K Z H r v H' → Q v H'
section
variable {X : Cx}
theorem ix_dict (hu : X.A.units + 1 < cLine) : IxR X (fun x y H Q => ∃ a v, x = .ref a ∧ DGet H a y (some v) ∧ Q v H) := by
  intro value slice pins s σ H x y v u Q I rx ry ⟨a, w, e, g, q⟩ hs
  subst e
  cases rx
  exact tail_any (dict_typeIs I g) PySem.F.slot_dict_getitem.lookup (d_getItem hu I g ry fun w' s' I' rw' => ⟨w, H, I', rw', q⟩) hs
theorem subV_ok (hu : X.A.units + 1 < cLine) : IxR X (rSubV X.K) := by
  intro value slice pins s σ H x y v u Q I rx ry ⟨Z, a, b, r, hz, ha, hb, e, q⟩ hs
  have seq : ∀ {ds : List D} {k : Int} {w : RV}, (∃ a vs, x = .ref a ∧ H a = some (.lst vs) ∧ RpL X.K Z vs ds) → y = .int k → (atI ds k).map RV.dat = some w → (∀ v H', NewR X.K Z H w v H' → Q v H') →
      wpAny (model X.prog X.w) X.A (subscriptTail value slice v u) (EP X pins σ Q) X.xe s := fun {ds k w} ⟨a, vs, e1, h1, r1⟩ e2 e3 q => by
    cases k0 : atI ds k with
    | none => rw [k0] at e3; cases e3
    | some d =>
      rw [k0] at e3
      cases e3
      obtain ⟨z, e4, h4⟩ := atI_rel r1 k0
      exact ix_list value slice pins s σ H x y v u Q I rx ry ⟨a, vs, k, z, e1, e2, SqL.of h1, e4, q _ _ (.inl ⟨rfl, h4⟩)⟩ hs
  unfold subV at e
  split at e
  · split at e
    · exact seq (ViR.lst hz (.inl ha)) hb.int e q
    · cases e
  · split at e
    · rename_i ds _ k
      cases k0 : atI ds k with
      | none => rw [k0] at e; cases e
      | some d =>
        rw [k0] at e
        cases e
        obtain ⟨p, vs, e1, _, h1, r1⟩ := ha.tup hz
        obtain ⟨z, e4, h4⟩ := atI_rel r1 k0
        exact ix_tup value slice pins s σ H x y v u Q I rx ry ⟨p, vs, k, z, e1, hb.int, SqT.of h1, e4, q _ _ (.inl ⟨rfl, h4⟩)⟩ hs
    · cases e
  · split at e
    · exact seq (ViR.lst hz (.inr ha)) hb.int e q
    · cases e
  · split at e
    · split at e
      · rename_i z _ k hl
        cases k0 : atI z.cps.toList k with
        | none => rw [k0] at e; cases e
        | some c =>
          rw [k0] at e
          cases e
          exact ix_str value slice pins s σ H x y v u Q I rx ry ⟨z, k, c, ha.str, hb.int, okLen_le hl, k0, q _ _ (.inl ⟨rfl, .str _⟩)⟩ hs
      · cases e
    · cases e
  · split at e
    · rename_i dss _ k
      cases k0 : atI dss k with
      | none => rw [k0] at e; cases e
      | some ds =>
        rw [k0] at e
        cases e
        obtain ⟨B, p, as, e1, h1, r1, _⟩ := ha
        obtain ⟨z, vs, e4, h4, h5⟩ := atI_rows r1 k0
        exact ix_list value slice pins s σ H x y v u Q I rx ry ⟨p, _, k, .ref z, e1, hb.int, SqL.of h1, e4, q _ _ ⟨rfl, z, vs, rfl, h4, h5⟩⟩ hs
    · cases e
  · split at e
    · rename_i kvs _ d
      cases k0 : keyOf d with
      | none => rw [k0] at e; cases e
      | some k =>
        rw [k0] at e
        cases k1 : lookA kvs k with
        | none => simp [k1] at e
        | some d' =>
          simp [k1] at e
          subst e
          obtain ⟨B, hb, _⟩ := hb
          have e3 := key_of hb k0
          subst e3
          obtain ⟨p, o, e1, g, _, h⟩ := ha.dget (k := k) hz
          obtain ⟨w, e2, h2⟩ := h d' k1
          subst e2
          exact ix_dict hu value slice pins s σ H x _ v u Q I rx ry ⟨p, w, e1, g, q _ _ (.inl ⟨rfl, h2⟩)⟩ hs
    · cases e
  · split at e
    · rename_i kvs _ ds
      cases k0 : keysOf ds with
      | none => rw [k0] at e; cases e
      | some k =>
        rw [k0] at e
        cases k1 : lookA kvs k with
        | none => simp [k1] at e
        | some d' =>
          simp [k1] at e
          subst e
          obtain ⟨p, o, e1, g, _, h⟩ := ha.dgetT hz hb k0
          obtain ⟨w, e2, h2⟩ := h d' k1
          subst e2
          exact ix_dict hu value slice pins s σ H x _ v u Q I rx ry ⟨p, w, e1, g, q _ _ (.inl ⟨rfl, h2⟩)⟩ hs
    · cases e
  · cases e
theorem cut_ints (ns : List Int) (lo hi : Option Int) : cutV (ns.map V.int) lo hi = (cutL ns lo hi).map V.int := by
  unfold cutV cutL
  rw [List.length_map, List.map_take, List.map_drop]
theorem ints_rel {K : PySem.W.Frag} {Z : Hp} : ∀ ns : List Int, RpL K Z (ns.map V.int) (ns.map PyData.int)
  | [] => .nil
  | n :: ns => .cons (.int n) (ints_rel ns)
theorem sliceV_ok : L2.SlR X (fun x lo hi H Q => ∃ (Z : Hp) (s : Slot) (r : RV), Same Z H ∧ ViR X.K Z H s x ∧ sliceV s lo hi = some r ∧ ∀ v H', NewR X.K Z H r v H' → Q v H') := by
  intro pins s σ H x v vl vu lo hi sl Q I rx hs pl pu ⟨Z, a, r, hz, ha, e, q⟩
  unfold sliceV at e
  split at e
  · cases e
    obtain ⟨p, vs, e1, h1, r1⟩ := ViR.lst hz (.inl ha)
    exact sl_list pins s σ H x v vl vu lo hi sl Q I rx hs pl pu ⟨p, vs, e1, SqL.of h1, fun p hp => q _ _ ⟨p, _, hp, rfl, rfl, r1.cut⟩⟩
  · cases e
    obtain ⟨p, vs, e1, h1, r1⟩ := ViR.lst hz (.inr ha)
    exact sl_list pins s σ H x v vl vu lo hi sl Q I rx hs pl pu ⟨p, vs, e1, SqL.of h1, fun p hp => q _ _ ⟨p, _, hp, rfl, rfl, r1.cut⟩⟩
  · cases e
    obtain ⟨B, p, e1, h1, _⟩ := ha
    rename_i ns
    refine sl_list pins s σ H x v vl vu lo hi sl Q I rx hs pl pu ⟨p, _, e1, hz.seq h1, fun p hp => q _ _ ⟨p, _, hp, rfl, rfl, ?_⟩⟩
    rw [cut_ints]
    exact ints_rel _
  · cases e
    obtain ⟨p, vs, e1, z1, h1, r1⟩ := ha.tup hz
    refine sl_tupA pins s σ H x v vl vu lo hi sl Q I rx hs pl pu ⟨p, vs, e1, SqT.of h1, fun hw => q _ _ (.inl ⟨rfl, ?_⟩), fun _ p hp => q _ _ (new_tup hz hp r1.cut)⟩
    rw [r1.len] at hw
    rw [cut_whole hw]
    exact .tup z1 r1
  · cases e
theorem empty_of {K : PySem.W.Frag} {Z : Hp} {vs : List V} {ds : List D} (r : RpL K Z vs ds) : vs.isEmpty = ds.isEmpty := by
  cases r <;> rfl
theorem truV_ok : TruR X (fun x H Q => ∃ (Z : Hp) (s : Slot) (c : Bool), Same Z H ∧ ViR X.K Z H s x ∧ truV s = some c ∧ Q c H) := by
  intro pins s σ H x v Q I rx ⟨Z, a, c, hz, ha, e, q⟩
  refine tru_ok pins s σ H x v Q I rx ⟨c, ?_, q⟩
  unfold truV at e
  split at e
  · cases e; rw [ha.none]; rfl
  · cases e; rw [ha.bool]; rfl
  · cases e; rw [ha.int]; rfl
  · cases e
    obtain ⟨p, vs, e1, h1, r1⟩ := ViR.lst hz (.inl ha)
    subst e1
    exact .inl ⟨vs, SqL.of h1, by rw [empty_of r1]⟩
  · cases e
    obtain ⟨p, vs, e1, _, h1, r1⟩ := ha.tup hz
    subst e1
    exact .inr (.inl ⟨vs, SqT.of h1, by rw [empty_of r1]⟩)
  · cases e
    obtain ⟨p, vs, e1, h1, r1⟩ := ViR.lst hz (.inr ha)
    subst e1
    exact .inl ⟨vs, SqL.of h1, by rw [empty_of r1]⟩
  · cases e
end

/-! ### built-ins -/
def ViL (K : PySem.W.Frag) (Z H : Hp) : List Slot → List V → Prop
  | [], [] => True
  | s :: ss, v :: vs => ViR K Z H s v ∧ ViL K Z H ss vs
  | _, _ => False
theorem ViL.one {K : PySem.W.Frag} {Z H : Hp} {s : Slot} {vs : List V} (h : ViL K Z H [s] vs) : ∃ v, vs = [v] ∧ ViR K Z H s v := by
  match vs, h with
  | [v], ⟨h, _⟩ => exact ⟨v, rfl, h⟩
  | _ :: _ :: _, ⟨_, h⟩ => exact h.elim
theorem ViL.two {K : PySem.W.Frag} {Z H : Hp} {s t : Slot} {vs : List V} (h : ViL K Z H [s, t] vs) : ∃ v w, vs = [v, w] ∧ ViR K Z H s v ∧ ViR K Z H t w := by
  match vs, h with
  | [v, w], ⟨h, h2, _⟩ => exact ⟨v, w, rfl, h, h2⟩
  | [_], ⟨_, h⟩ => exact h.elim
  | _ :: _ :: _ :: _, ⟨_, _, h⟩ => exact h.elim
theorem minI_spec : ∀ (ns : List Int) (m : Int), (minI m ns ∈ m :: ns) ∧ ∀ y ∈ m :: ns, minI m ns ≤ y
  | [], m => ⟨List.mem_cons_self, fun y h => by cases List.mem_singleton.mp h; exact Int.le_refl _⟩
  | x :: r, m => by
    obtain ⟨h1, h2⟩ := minI_spec r (if x < m then x else m)
    unfold minI
    refine ⟨?_, fun y hy => ?_⟩
    · rcases List.mem_cons.mp h1 with e | h
      · rw [e]
        by_cases c : x < m
        · rw [if_pos c]; simp
        · rw [if_neg c]; simp
      · exact List.mem_cons_of_mem _ (List.mem_cons_of_mem _ h)
    · have h3 := h2 _ List.mem_cons_self
      rcases List.mem_cons.mp hy with e | hy
      · subst e
        generalize minI _ r = z at h3 ⊢
        split at h3 <;> omega
      · rcases List.mem_cons.mp hy with e | hy
        · subst e
          generalize minI _ r = z at h3 ⊢
          split at h3 <;> omega
        · exact h2 y (List.mem_cons_of_mem _ hy)
theorem maxI_spec : ∀ (ns : List Int) (m : Int), (maxI m ns ∈ m :: ns) ∧ ∀ y ∈ m :: ns, y ≤ maxI m ns
  | [], m => ⟨List.mem_cons_self, fun y h => by cases List.mem_singleton.mp h; exact Int.le_refl _⟩
  | x :: r, m => by
    obtain ⟨h1, h2⟩ := maxI_spec r (if m < x then x else m)
    unfold maxI
    refine ⟨?_, fun y hy => ?_⟩
    · rcases List.mem_cons.mp h1 with e | h
      · rw [e]
        by_cases c : m < x
        · rw [if_pos c]; simp
        · rw [if_neg c]; simp
      · exact List.mem_cons_of_mem _ (List.mem_cons_of_mem _ h)
    · have h3 := h2 _ List.mem_cons_self
      rcases List.mem_cons.mp hy with e | hy
      · subst e
        generalize maxI _ r = z at h3 ⊢
        split at h3 <;> omega
      · rcases List.mem_cons.mp hy with e | hy
        · subst e
          generalize maxI _ r = z at h3 ⊢
          split at h3 <;> omega
        · exact h2 y (List.mem_cons_of_mem _ hy)
theorem bi1_of {f : Slot → Option RV} {xs : List Slot} {w : RV} (e : bi1 f xs = some w) : ∃ x, xs = [x] ∧ f x = some w := by
  unfold bi1 at e
  split at e
  · exact ⟨_, rfl, e⟩
  · cases e
theorem bi_two {g : Int → Int → Int} {xs : List Slot} {w : RV} (e : int2 g xs = some w) : ∃ i j, xs = [.dat (.int i), .dat (.int j)] ∧ w = .dat (.int (g i j)) := by
  unfold int2 at e
  split at e
  · cases e; exact ⟨_, _, rfl, rfl⟩
  · cases e
theorem bi_oneI {g : Int → Int} {xs : List Slot} {w : RV} (e : int1 g xs = some w) : ∃ i, xs = [.dat (.int i)] ∧ w = .dat (.int (g i)) := by
  unfold int1 at e
  split at e
  · cases e; exact ⟨_, rfl, rfl⟩
  · cases e
theorem lst_view {K : PySem.W.Frag} {Z H : Hp} {x : Slot} {v : V} {ds : List D} (hz : Same Z H) (h : ViR K Z H x v) (e : lstOf x = some ds) : ∃ a vs, v = .ref a ∧ H a = some (.lst vs) ∧ RpL K Z vs ds := by
  unfold lstOf at e
  split at e
  · cases e; exact ViR.lst hz (.inr h)
  · cases e; exact ViR.lst hz (.inl h)
  · cases e
def rBiV (K : PySem.W.Frag) (b : Bi) : List V → Hp → VK → Prop := fun vs H Q => ∃ (Z : Hp) (xs : List Slot) (r : RV), Same Z H ∧ ViL K Z H xs vs ∧ biV b xs = some r ∧ ∀ v H', NewR K Z H r v H' → Q v H'
/-- the class asked by isinstance -/
def biTy : Bi → Option String
  | .isInt => some "int"
  | .isBool => some "bool"
  | .isStr => some "str"
  | .isTuple => some "tuple"
  | .isList => some "list"
  | _ => none
section
variable {X : Cx}
theorem seq_view {K : PySem.W.Frag} {Z H : Hp} {s : Slot} {ds : List D} {v : V} (hz : Same Z H) (h : ViR K Z H s v) (e : seqOf s = some ds) : ∃ a vs, v = .ref a ∧ (SqL K H a vs ∨ (SqT K H a vs ∧ s = .dat (.tuple ds) ∧ Z a = some (.tup vs))) ∧ RpL K Z vs ds := by
  unfold seqOf at e
  split at e
  · cases e
    obtain ⟨a, vs, e1, h1, r⟩ := ViR.lst hz (.inl h)
    exact ⟨a, vs, e1, .inl (SqL.of h1), r⟩
  · cases e
    obtain ⟨a, vs, e1, z1, h1, r⟩ := h.tup hz
    exact ⟨a, vs, e1, .inr ⟨SqT.of h1, rfl, z1⟩, r⟩
  · cases e
    obtain ⟨a, vs, e1, h1, r⟩ := ViR.lst hz (.inr h)
    exact ⟨a, vs, e1, .inl (SqL.of h1), r⟩
  · cases e
theorem bi_len : CallR X (.builtin "len") (rBiV X.K .len) := by
  intro pins s σ H vs us Q I r ⟨Z, xs, w, hz, hv, e, q⟩
  replace e := bi1_of (f := lenV) e
  obtain ⟨x, e0, e⟩ := e
  subst e0
  obtain ⟨v, e1, hw⟩ := hv.one
  subst e1
  unfold lenV at e
  split at e
  · rename_i ds hs
    cases e
    obtain ⟨a, ws, e1, h1, r1⟩ := seq_view hz hw hs
    refine call_len_seq pins s σ H _ us Q I r ⟨a, ws, by rw [e1], h1.imp id fun h => h.1, ?_⟩
    rw [r1.len]
    exact q _ _ (.inl ⟨rfl, .int _⟩)
  · split at e
    · split at e
      · cases e
        rename_i z _ hl
        refine call_len_str pins s σ H _ us Q I r ⟨z, by rw [hw.str], okLen_le hl, q _ _ (.inl ⟨rfl, .int _⟩)⟩
      · cases e
    · cases e
      obtain ⟨B, a, as, e1, h1, r1, _⟩ := hw
      refine call_len_seq pins s σ H _ us Q I r ⟨a, _, by rw [e1], .inl (SqL.of h1), ?_⟩
      rw [List.length_map, r1.len]
      exact q _ _ (.inl ⟨rfl, .int _⟩)
    · cases e
theorem lst_one {b : Bi} {α : Type} {g : List D → Option α} {k : α → RV} {f : Value} {vs : List V} {us : List Value} {H : Hp} {Q : VK}
    (hb : ∀ xs, biV b xs = bi1 (fun x => (lstOf x).bind fun ds => (g ds).map k) xs) (h : rBiV X.K b vs H Q) :
    ∃ Z a ws ds y, Same Z H ∧ vs = [.ref a] ∧ H a = some (.lst ws) ∧ RpL X.K Z ws ds ∧ g ds = some y ∧ ∀ v H', NewR X.K Z H (k y) v H' → Q v H' := by
  obtain ⟨Z, xs, w, hz, hv, e, q⟩ := h
  rw [hb] at e
  replace e := bi1_of e
  obtain ⟨x, e0, e⟩ := e
  subst e0
  obtain ⟨v, e1, hw⟩ := hv.one
  subst e1
  cases k0 : lstOf x with
  | none => rw [k0] at e; cases e
  | some ds =>
    rw [k0] at e
    cases k1 : g ds with
    | none => simp [k1] at e
    | some y =>
      simp [k1] at e
      subst e
      obtain ⟨a, ws, e1, h1, r1⟩ := lst_view hz hw k0
      exact ⟨Z, a, ws, ds, y, hz, by rw [e1], h1, r1, k1, q⟩
theorem bi_all (hc : X.calm = true) : CallR X (.builtin "all") (rBiV X.K .all) := by
  intro pins s σ H vs us Q I r h
  obtain ⟨Z, a, ws, ds, bs, hz, e, h1, r1, k, q⟩ := lst_one (f := .none) (us := us) (g := boolsOf) (k := fun bs => .dat (.bool (bs.all id))) (fun _ => rfl) h
  have := r1.bools k
  subst this
  exact cr_all hc pins s σ H _ us Q I r ⟨a, bs, e, SqL.of h1, q _ _ (.inl ⟨rfl, .bl _⟩)⟩
theorem bi_any (hc : X.calm = true) : CallR X (.builtin "any") (rBiV X.K .any) := by
  intro pins s σ H vs us Q I r h
  obtain ⟨Z, a, ws, ds, bs, hz, e, h1, r1, k, q⟩ := lst_one (f := .none) (us := us) (g := boolsOf) (k := fun bs => .dat (.bool (bs.any id))) (fun _ => rfl) h
  have := r1.bools k
  subst this
  exact cr_any hc pins s σ H _ us Q I r ⟨a, bs, e, SqL.of h1, q _ _ (.inl ⟨rfl, .bl _⟩)⟩
theorem bi_sum (hc : X.calm = true) : CallR X (.builtin "sum") (rBiV X.K .sum) := by
  intro pins s σ H vs us Q I r h
  obtain ⟨Z, a, ws, ds, bs, hz, e, h1, r1, k, q⟩ := lst_one (f := .none) (us := us) (g := intsOf) (k := fun ns => .dat (.int ns.sum)) (fun _ => rfl) h
  have := r1.ints k
  subst this
  exact cr_sum hc pins s σ H _ us Q I r ⟨a, bs, e, SqL.of h1, q _ _ (.inl ⟨rfl, .int _⟩)⟩
theorem bi_min (hc : X.calm = true) : CallR X (.builtin "min") (fun vs H Q => rBiV X.K .min vs H Q ∨ rBiV X.K .min2 vs H Q) := by
  intro pins s σ H vs us Q I r hh
  rcases hh with ⟨Z, xs, w, hz, hv, e, q⟩ | ⟨Z, xs, w, hz, hv, e, q⟩
  · replace e := bi1_of (f := minV) e
    obtain ⟨x, e0, e⟩ := e
    subst e0
    obtain ⟨v, e1, hw⟩ := hv.one
    subst e1
    unfold minV at e
    cases k0 : lstOf x with
    | none => rw [k0] at e; cases e
    | some ds =>
      rw [k0] at e
      obtain ⟨a, ws, e1, h1, r1⟩ := lst_view hz hw k0
      have e : (match intsOf ds with
        | some (n :: ns) => some (RV.dat (.int (minI n ns)))
        | _ => none) = some w := e
      split at e
      · rename_i n ns k
        cases e
        have := r1.ints k
        subst this
        obtain ⟨m1, m2⟩ := minI_spec ns n
        exact cr_min hc pins s σ H _ us Q I r ⟨a, n :: ns, by rw [e1], SqL.of h1, by simp, fun m h1 h2 => q _ _ (.inl ⟨rfl, (by rw [Int.le_antisymm (h2 _ m1) (m2 _ h1)]; exact .int _)⟩)⟩
      · cases e
  · obtain ⟨i, j, e1, e2⟩ := bi_two (g := fun i j => if j < i then j else i) e
    subst e1 e2
    obtain ⟨v1, v2, e3, h1, h2⟩ := hv.two
    exact call_min2 hc pins s σ H vs us Q I r ⟨i, j, by rw [e3, h1.int, h2.int], q _ _ (.inl ⟨rfl, .int _⟩)⟩
theorem bi_max (hc : X.calm = true) : CallR X (.builtin "max") (fun vs H Q => rBiV X.K .max vs H Q ∨ rBiV X.K .max2 vs H Q) := by
  intro pins s σ H vs us Q I r hh
  rcases hh with ⟨Z, xs, w, hz, hv, e, q⟩ | ⟨Z, xs, w, hz, hv, e, q⟩
  · replace e := bi1_of (f := maxV) e
    obtain ⟨x, e0, e⟩ := e
    subst e0
    obtain ⟨v, e1, hw⟩ := hv.one
    subst e1
    unfold maxV at e
    cases k0 : lstOf x with
    | none => rw [k0] at e; cases e
    | some ds =>
      rw [k0] at e
      obtain ⟨a, ws, e1, h1, r1⟩ := lst_view hz hw k0
      have e : (match intsOf ds with
        | some (n :: ns) => some (RV.dat (.int (maxI n ns)))
        | _ => none) = some w := e
      split at e
      · rename_i n ns k
        cases e
        have := r1.ints k
        subst this
        obtain ⟨m1, m2⟩ := maxI_spec ns n
        exact cr_max hc pins s σ H _ us Q I r ⟨a, n :: ns, by rw [e1], SqL.of h1, by simp, fun m h1 h2 => q _ _ (.inl ⟨rfl, (by rw [Int.le_antisymm (m2 _ h1) (h2 _ m1)]; exact .int _)⟩)⟩
      · cases e
  · obtain ⟨i, j, e1, e2⟩ := bi_two (g := fun i j => if j > i then j else i) e
    subst e1 e2
    obtain ⟨v1, v2, e3, h1, h2⟩ := hv.two
    exact call_max2 hc pins s σ H vs us Q I r ⟨i, j, by rw [e3, h1.int, h2.int], q _ _ (.inl ⟨rfl, .int _⟩)⟩
theorem bi_abs : CallR X (.builtin "abs") (rBiV X.K .abs) := by
  intro pins s σ H vs us Q I r ⟨Z, xs, w, hz, hv, e, q⟩
  obtain ⟨i, e1, e2⟩ := bi_oneI (g := fun i => if i < 0 then -i else i) e
  subst e1 e2
  obtain ⟨v, e3, h1⟩ := hv.one
  exact call_abs pins s σ H vs us Q I r ⟨i, by rw [e3, h1.int], q _ _ (.inl ⟨rfl, .int _⟩)⟩
theorem bi_int : CallR X (.type "int") (rBiV X.K .int) := by
  intro pins s σ H vs us Q I r ⟨Z, xs, w, hz, hv, e, q⟩
  obtain ⟨i, e1, e2⟩ := bi_oneI (g := fun i => i) e
  subst e1 e2
  obtain ⟨v, e3, h1⟩ := hv.one
  exact call_int1 pins s σ H vs us Q I r (.inl ⟨i, by rw [e3, h1.int], q _ _ (.inl ⟨rfl, .int _⟩)⟩)
theorem bi_boo {g : Bool → RV} {xs : List Slot} {w : RV} (e : boo1 g xs = some w) : ∃ b, xs = [.dat (.bool b)] ∧ w = g b := by
  unfold boo1 at e
  split at e
  · cases e; exact ⟨_, rfl, rfl⟩
  · cases e
theorem bi_reprB : CallR X (.builtin "repr") (rBiV X.K .reprB) := by
  intro pins s σ H vs us Q I r ⟨Z, xs, w, hz, hv, e, q⟩
  obtain ⟨b, e1, e2⟩ := bi_boo (g := fun b => .dat (.str (if b then "True" else "False"))) e
  subst e1 e2
  obtain ⟨v, e3, h1⟩ := hv.one
  have e4 : vs = [.bl b] := by rw [e3, h1.bool]
  subst e4
  obtain ⟨u, rfl, rfl⟩ := vals1 r
  exact PySem.P.repr_of_bool ⟨.str _, H, I.tok _, ⟨_, rfl⟩, q _ _ (.inl ⟨rfl, .str _⟩)⟩
theorem bi_tuple : CallR X (.type "tuple") (rBiV X.K .tuple) := by
  intro pins s σ H vs us Q I r ⟨Z, xs, w, hz, hv, e, q⟩
  replace e := bi1_of (f := fun x => (seqOf x).map fun ds => .dat (.tuple ds)) e
  obtain ⟨x, e0, e⟩ := e
  subst e0
  obtain ⟨v, e1, hw⟩ := hv.one
  subst e1
  cases k : seqOf x with
  | none => simp [k] at e
  | some ds =>
    simp [k] at e
    subst e
    obtain ⟨a, ws, e1, h1, r1⟩ := seq_view hz hw k
    refine call_tuple_of pins s σ H _ us Q I r ⟨a, ws, by rw [e1], ?_⟩
    rcases h1 with h1 | ⟨h1, e2, z1⟩
    · exact .inl ⟨h1, fun l hl => q _ _ (new_tup hz hl r1)⟩
    · exact .inr ⟨h1, q _ _ (.inl ⟨rfl, .tup z1 r1⟩)⟩
theorem bi_list : CallR X (.type "list") (rBiV X.K .list) := by
  intro pins s σ H vs us Q I r ⟨Z, xs, w, hz, hv, e, q⟩
  replace e := bi1_of (f := fun x => (seqOf x).map fun ds => .own (.lst ds)) e
  obtain ⟨x, e0, e⟩ := e
  subst e0
  obtain ⟨v, e1, hw⟩ := hv.one
  subst e1
  cases k : seqOf x with
  | none => simp [k] at e
  | some ds =>
    simp [k] at e
    subst e
    obtain ⟨a, ws, e1, h1, r1⟩ := seq_view hz hw k
    exact call_list_of pins s σ H _ us Q I r ⟨a, ws, by rw [e1], h1.imp id fun h => h.1, fun l hl => q _ _ ⟨l, _, hl, rfl, rfl, r1⟩⟩
/-- the name of a value's type -/
def tyName : D → String
  | .none => "NoneType"
  | .bool _ => "bool"
  | .int _ => "int"
  | .str _ => "str"
  | .list _ => "list"
  | .tuple _ => "tuple"
  | .dict _ => "dict"
theorem ViR.ty {K : PySem.W.Frag} {Z H : Hp} {s : Slot} {v : V} {d : D} (hz : Same Z H) (h : ViR K Z H s v) (e : frz s = some d) : TyX K H v (.type (tyName d)) := by
  obtain ⟨B, h⟩ := h
  cases s with
  | dat d' =>
    cases e
    obtain ⟨h, _⟩ := h
    cases h with
    | non => exact .base .non
    | bl b => exact .base (.bl b)
    | int b => exact .base (.int b)
    | str b => exact .base (.str b)
    | lst h _ => exact .base (.lst (hz _ _ h))
    | tup h _ => exact .base (.tup (hz _ _ h))
  | lst ds =>
    cases e
    obtain ⟨a, vs, rfl, e2, r, _⟩ := h
    exact .base (.lst e2)
  | rows dss =>
    cases e
    obtain ⟨a, as, rfl, e2, r, _⟩ := h
    exact .base (.lst e2)
  | _ => cases e
theorem bi_isi {b : Bi} {T : String} {p : D → Bool} (hb : ∀ xs, biV b xs = bi1 (isTy p) xs) (hp : ∀ d, (∀ k, d ≠ .dict k) → kitB (tyName d) T = some (p d)) : CallR X (.builtin "isinstance") (fun ws H Q => ∃ vs, ws = vs ++ [.ty T] ∧ rBiV X.K b vs H Q) := by
  intro pins s σ H ws us Q I r ⟨vs, ew, Z, xs, w, hz, hv, e, q⟩
  rw [hb] at e
  replace e := bi1_of e
  obtain ⟨x, e0, e⟩ := e
  subst e0
  obtain ⟨v, e1, hw⟩ := hv.one
  subst e1
  subst ew
  unfold isTy dataOf at e
  split at e
  · cases e
    rename_i d k
    have nd : ∀ k, d ≠ .dict k := fun z e' => by
      subst e'
      cases x with
      | dat d' =>
        cases k
        obtain ⟨B, h, _⟩ := hw
        cases h
      | lst _ => cases k
      | rows _ => cases k
      | _ => cases k
    exact call_isi pins s σ H _ us Q I r ⟨v, .ty T, .type (tyName d), .type T, p d, rfl, .ty T, hw.ty hz k, kit_ty (hp d nd), q _ _ (.inl ⟨rfl, .bl _⟩)⟩
  · cases e
theorem kit6 {T : String} {p : D → Bool} {b0 b1 b2 b3 b4 b5 : Bool} (h0 : kitB "NoneType" T = some b0) (h1 : kitB "bool" T = some b1) (h2 : kitB "int" T = some b2) (h3 : kitB "str" T = some b3) (h4 : kitB "list" T = some b4) (h5 : kitB "tuple" T = some b5)
    (e0 : p .none = b0) (e1 : ∀ b, p (.bool b) = b1) (e2 : ∀ b, p (.int b) = b2) (e3 : ∀ b, p (.str b) = b3) (e4 : ∀ b, p (.list b) = b4) (e5 : ∀ b, p (.tuple b) = b5) : ∀ d, (∀ k, d ≠ .dict k) → kitB (tyName d) T = some (p d)
  | .none, _ => by rw [e0]; exact h0
  | .bool b, _ => by rw [e1]; exact h1
  | .int b, _ => by rw [e2]; exact h2
  | .str b, _ => by rw [e3]; exact h3
  | .list b, _ => by rw [e4]; exact h4
  | .tuple b, _ => by rw [e5]; exact h5
  | .dict k, h => absurd rfl (h k)
theorem bi_isInt : CallR X (.builtin "isinstance") (fun ws H Q => ∃ vs, ws = vs ++ [.ty "int"] ∧ rBiV X.K .isInt vs H Q) :=
  bi_isi (fun _ => rfl) (kit6 (by decide +kernel) (by decide +kernel) (by decide +kernel) (by decide +kernel) (by decide +kernel) (by decide +kernel) rfl (fun _ => rfl) (fun _ => rfl) (fun _ => rfl) (fun _ => rfl) (fun _ => rfl))
theorem bi_isBool : CallR X (.builtin "isinstance") (fun ws H Q => ∃ vs, ws = vs ++ [.ty "bool"] ∧ rBiV X.K .isBool vs H Q) :=
  bi_isi (fun _ => rfl) (kit6 (by decide +kernel) (by decide +kernel) (by decide +kernel) (by decide +kernel) (by decide +kernel) (by decide +kernel) rfl (fun _ => rfl) (fun _ => rfl) (fun _ => rfl) (fun _ => rfl) (fun _ => rfl))
theorem bi_isStr : CallR X (.builtin "isinstance") (fun ws H Q => ∃ vs, ws = vs ++ [.ty "str"] ∧ rBiV X.K .isStr vs H Q) :=
  bi_isi (fun _ => rfl) (kit6 (by decide +kernel) (by decide +kernel) (by decide +kernel) (by decide +kernel) (by decide +kernel) (by decide +kernel) rfl (fun _ => rfl) (fun _ => rfl) (fun _ => rfl) (fun _ => rfl) (fun _ => rfl))
theorem bi_isTuple : CallR X (.builtin "isinstance") (fun ws H Q => ∃ vs, ws = vs ++ [.ty "tuple"] ∧ rBiV X.K .isTuple vs H Q) :=
  bi_isi (fun _ => rfl) (kit6 (by decide +kernel) (by decide +kernel) (by decide +kernel) (by decide +kernel) (by decide +kernel) (by decide +kernel) rfl (fun _ => rfl) (fun _ => rfl) (fun _ => rfl) (fun _ => rfl) (fun _ => rfl))
theorem bi_isList : CallR X (.builtin "isinstance") (fun ws H Q => ∃ vs, ws = vs ++ [.ty "list"] ∧ rBiV X.K .isList vs H Q) :=
  bi_isi (fun _ => rfl) (kit6 (by decide +kernel) (by decide +kernel) (by decide +kernel) (by decide +kernel) (by decide +kernel) (by decide +kernel) rfl (fun _ => rfl) (fun _ => rfl) (fun _ => rfl) (fun _ => rfl) (fun _ => rfl))
end
end Ev

set_option Elab.async false
set_option linter.all false
set_option maxRecDepth 100000
set_option maxHeartbeats 4000000
/-! str and sorted by values. -/
namespace Ev
open PySem PySem.Spec PyProof.Rows L2
theorem sortI_eq {ns ms : List Int} (p : ms.Perm ns) (h : ms.Pairwise (· ≤ ·)) : ms = sortI ns := by
  have h1 : (sortI ns).Pairwise (· ≤ ·) := (List.pairwise_mergeSort (le := leI) (fun a b c h1 h2 => by simp only [leI, decide_eq_true_eq] at h1 h2 ⊢; omega) (fun a b => by simp only [leI, Bool.or_eq_true, decide_eq_true_eq]; omega) ns).imp fun h => by simpa [leI] using h
  exact List.Perm.eq_of_pairwise (le := (· ≤ ·)) (fun a b _ _ h1 h2 => Int.le_antisymm h1 h2) h h1 (p.trans (List.mergeSort_perm _ _).symm)
theorem leP_iff {p q : Int × Int} : leP p q = true ↔ p.1 < q.1 ∨ (p.1 = q.1 ∧ p.2 ≤ q.2) := by simp [leP]
theorem sortP_sorted (ps : List (Int × Int)) : (sortP ps).Pairwise fun p q => leP p q = true :=
  List.pairwise_mergeSort (fun a b c h1 h2 => by rw [leP_iff] at h1 h2 ⊢; omega) (fun a b => by rw [Bool.or_eq_true, leP_iff, leP_iff]; omega) ps
theorem sortP_eq {ns ms : List (Int × Int)} (p : ms.Perm ns) (h : ms.Pairwise fun p q => leP p q = true) : ms = sortP ns :=
  List.Perm.eq_of_pairwise (le := fun p q => leP p q = true) (fun a b _ _ h1 h2 => by
    rw [leP_iff] at h1 h2
    obtain ⟨a1, a2⟩ := a
    obtain ⟨b1, b2⟩ := b
    dsimp only at h1 h2
    rw [Prod.mk.injEq]
    omega) h (sortP_sorted ns) (p.trans (List.mergeSort_perm _ _).symm)
theorem RpL.mem {K : PySem.W.Frag} {Z : Hp} : ∀ {vs : List V} {ds : List D}, RpL K Z vs ds → ∀ v ∈ vs, ∃ d ∈ ds, Rp K Z v d
  | _, _, .cons h r, v, m => by
    rcases List.mem_cons.mp m with rfl | m
    · exact ⟨_, List.mem_cons_self, h⟩
    · obtain ⟨d, h1, h2⟩ := r.mem v m
      exact ⟨d, List.mem_cons_of_mem _ h1, h2⟩
theorem rpl_map {K : PySem.W.Frag} {Z : Hp} {f : V → D} : ∀ {vs : List V}, (∀ v ∈ vs, Rp K Z v (f v)) → RpL K Z vs (vs.map f)
  | [], _ => .nil
  | v :: vs, h => .cons (h v List.mem_cons_self) (rpl_map fun u m => h u (List.mem_cons_of_mem _ m))
/-- the two ints of a pair's place -/
def pairK (H : Hp) : V → Int × Int
  | .ref t => (match H t with
    | some (.tup [.int i, .int j]) => (i, j)
    | _ => (0, 0))
  | _ => (0, 0)
theorem RpL.pairs {K : PySem.W.Frag} {Z H : Hp} (hz : Same Z H) : ∀ {vs : List V} {ds : List D} {ps : List (Int × Int)}, RpL K Z vs ds → pairsOf ds = some ps →
    vs.map (pairK H) = ps ∧ ∀ v ∈ vs, Rp K Z v (pairD (pairK H v)) ∧ ∃ t, v = .ref t ∧ H t = some (.tup [.int (pairK H v).1, .int (pairK H v).2])
  | _, _, ps, .nil, e => by
    cases e
    exact ⟨rfl, fun v m => by cases m⟩
  | _, _, ps, .cons (d := d) h r, e => by
    unfold pairsOf at e
    split at e
    · rename_i heq; cases heq
    · rename_i heq
      cases heq
      obtain ⟨qs, e1, e2⟩ := Option.map_eq_some_iff.mp e
      subst e2
      obtain ⟨h1, h2⟩ := r.pairs hz e1
      rename_i i j
      cases h with
      | tup hz1 hr =>
        rename_i a us
        cases hr with
        | cons g1 hr => cases hr with
          | cons g2 hr => cases hr; cases g1; cases g2
                          have k : pairK H (.ref a) = (i, j) := by have h0 := hz _ _ hz1; unfold pairK; dsimp only; rw [h0]
                          refine ⟨by rw [List.map_cons, k, h1], fun v m => ?_⟩
                          rcases List.mem_cons.mp m with rfl | m
                          · rw [k]
                            exact ⟨.tup hz1 (.cons (.int _) (.cons (.int _) .nil)), a, rfl, hz _ _ hz1⟩
                          · exact h2 v m
    · cases e
section
variable {X : Cx}
theorem bi_str : CallR X (.type "str") (rBiV X.K .str) := by
  intro pins s σ H vs us Q I r ⟨Z, xs, w, hz, hv, e, q⟩
  replace e := bi1_of (f := strV) e
  obtain ⟨x, e0, e⟩ := e
  subst e0
  obtain ⟨v, e1, hw⟩ := hv.one
  subst e1
  unfold strV at e
  split at e
  · split at e
    · cases e
      rename_i i hb
      exact call_str_int pins s σ H _ us Q I r ⟨i, by rw [hw.int], by simpa [Nat.blt_eq] using hb, q _ _ (.inl ⟨rfl, .str _⟩)⟩
    · cases e
  · cases e
theorem bi_sorted : CallR X (.builtin "sorted") (rBiV X.K .sorted) := by
  intro pins s σ H vs us Q I r ⟨Z, xs, w, hz, hv, e, q⟩
  replace e := bi1_of (f := fun x => (lstOf x).bind sortV) e
  obtain ⟨x, e0, e⟩ := e
  subst e0
  obtain ⟨v, e1, hw⟩ := hv.one
  subst e1
  cases k0 : lstOf x with
  | none => simp [k0] at e
  | some ds =>
    simp only [k0, Option.bind_some] at e
    obtain ⟨a, ws, e1, h1, r1⟩ := lst_view hz hw k0
    unfold sortV at e
    split at e
    · rename_i ns k
      cases e
      have := r1.ints k
      subst this
      exact cr_sortedI pins s σ H _ us Q I r ⟨a, ns, by rw [e1], SqL.of h1, fun ns' p hp hs hf => q _ _ ⟨p, _, hf, rfl, rfl, by rw [sortI_eq hp hs]; exact ints_rel _⟩⟩
    · obtain ⟨ps, k, e2⟩ := Option.map_eq_some_iff.mp e
      subst e2
      obtain ⟨h2, h3⟩ := r1.pairs hz k
      refine cr_sortedPO pins s σ H _ us Q I r ⟨a, ws, pairK H, by rw [e1], SqL.of h1, fun x m => (h3 x m).2, fun ys p hs hb hf => q _ _ ⟨p, _, hf, rfl, rfl, ?_⟩⟩
      have e3 : ys.map (pairK H) = sortP ps := sortP_eq (by rw [← h2]; exact hb.perm.map _) (List.pairwise_map.mpr (hs.imp fun {x y} h => by
        have h := SrtO.lexB_no.mp h
        rw [leP_iff]
        omega))
      rw [← e3, List.map_map]
      exact rpl_map fun v m => (h3 v (hb.perm.mem_iff.mp m)).1
end
end Ev

set_option Elab.async false
set_option linter.all false
set_option maxRecDepth 100000
set_option maxHeartbeats 4000000
/-! Expressions. -/
namespace Ev
open PySem PySem.Spec PyProof.Rows L2
/-! ### what the program's text must look like -/
def visB (sc : Scope) (x : Str) : Bool := match sc.names.lookup x with
  | some .local => true
  | some .cell => true
  | some .free => true
  | _ => false
def locB (sc : Scope) (x : Str) : Bool := match sc.names.lookup x with
  | some .local => true
  | some .cell => true
  | _ => false
def glB (sc : Scope) (x : Str) : Bool := match sc.names.lookup x with
  | some .globalImplicit => !(x == ("__debug__" : Str))
  | _ => false
def nmB (N : List Str) (i : Nat) (x : Str) : Bool := decide (N[i]? = some x) && !(x == ("__debug__" : Str)) && !(x == ("__classdict__" : Str))
def okE : Expr → Bool
  | .Starred _ _ => false
  | .Slice _ _ _ _ => false
  | .Set _ _ _ => false
  | .SetComp _ _ _ _ => false
  | .DictComp _ _ _ _ _ => false
  | _ => true
def cstB : D → Const → Bool
  | .none, .none => true
  | .bool b, .bool c => b == c
  | .int i, .int j => decide (i = j)
  | .str x, .str y => decide (x = y)
  | _, _ => false
def biName : Bi → Str
  | .len => "len"
  | .isInt => "isinstance"
  | .isBool => "isinstance"
  | .isStr => "isinstance"
  | .isTuple => "isinstance"
  | .isList => "isinstance"
  | .all => "all"
  | .any => "any"
  | .tuple => "tuple"
  | .list => "list"
  | .sum => "sum"
  | .min => "min"
  | .max => "max"
  | .abs => "abs"
  | .int => "int"
  | .max2 => "max"
  | .min2 => "min"
  | .reprB => "repr"
  | .str => "str"
  | .sorted => "sorted"
/-- no call without arguments (super) -/
def noSup : Expr → Bool
  | .Call _ [] [] _ => false
  | _ => true
/-- the written names of the program: its defs, its constants, its tables -/
structure Sx where
  T : List (Str × Fn)
  GT : List (Str × D)
  DT : List (Str × List (Key × D))
  CT : List Str
  N : List Str
  L : Option (Str × List (Str × Str)) := none
def tgB (N : List Str) (sc : Scope) : Tg → Expr → Bool
  | .nm i, .Name x _ => nmB N i x && locB sc x
  | .tup is, .Tuple es _ _ => (is.length == es.length) && (is.zip es).all fun p => match p.2 with
    | .Name x _ => nmB N p.1 x && locB sc x
    | _ => false
  | _, _ => false
def ownL (N : List Str) (own : List Nat) : List (Str × Nat) := own.map fun i => (N.getD i Str.empty, i)
def tgC (N : List Str) (sc : Scope) : Tg → Expr → Bool
  | .nm i, .Name x _ => nmB N i x && decide (sc.names.lookup x = some .local)
  | .tup is, .Tuple es _ _ => (is.length == es.length) && (is.zip es).all fun p => match p.2 with
    | .Name x _ => nmB N p.1 x && decide (sc.names.lookup x = some .local)
    | _ => false
  | _, _ => false
/-- a block's own target: local there, or its own cell -/
def ownB (raw sc : Scope) (x : Str) : Bool := decide (sc.names.lookup x = some .local) || (decide (raw.names.lookup x = some .cell) && decide (sc.names.lookup x = some .cell))
def tgR (N : List Str) (raw sc : Scope) : Tg → Expr → Bool
  | .nm i, .Name x _ => nmB N i x && ownB raw sc x
  | .tup is, .Tuple es _ _ => (is.length == es.length) && (is.zip es).all fun p => match p.2 with
    | .Name x _ => nmB N p.1 x && ownB raw sc x
    | _ => false
  | _, _ => false
def Tg.ix : Tg → List Nat
  | .nm i => [i]
  | .tup is => is
def scEq : D → D → Bool
  | .int i, .int j => decide (i = j)
  | .str x, .str y => decide (x = y)
  | _, _ => false
def kvsEq : List (Key × D) → List (Key × D) → Bool
  | [], [] => true
  | (k, d) :: r, (k', d') :: s => decide (k = k') && scEq d d' && kvsEq r s
  | _, _ => false
def Es.len : Es → Nat
  | .nil => 0
  | .cons _ es => es.len + 1
def isTyB (b : Bi) : Bool := (biTy b).isSome
def lamArgs : Arguments → Bool
  | ⟨[], [], none, [], [], none, []⟩ => true
  | _ => false
def itTg : It → Tg → Bool
  | .enum _, .nm _ => false
  | .zip _ _, .nm _ => false
  | _, _ => true
mutual
def chkE : Sx → E → Scope → Expr → Bool
  | S, .var i, sc, a => (match a with
    | .Name x _ => nmB S.N i x && visB sc x
    | _ => false)
  | S, .cst d, _, a => (match a with
    | .Constant c _ _ => cstB d c
    | _ => false)
  | S, .glb x d, sc, a => (match a with
    | .Name y _ => decide (x = y) && glB sc y && (match S.GT.lookup x with
      | some d' => scEq d d'
      | none => false)
    | _ => false)
  | S, .tup es, sc, a => (match a with
    | .Tuple l _ _ => chkEs S es sc l && okLen l.length
    | _ => false)
  | S, .lst es, sc, a => (match a with
    | .List l _ => chkEs S es sc l && okLen l.length
    | _ => false)
  | S, .newK, _, a => (match a with
    | .Dict [] [] _ => true
    | _ => false)
  | S, .newT, _, a => (match a with
    | .Dict [] [] _ => true
    | _ => false)
  | S, .bin op x y, sc, a => (match a with
    | .BinOp l o r _ => decide (opOf op = o) && chkE S x sc l && chkE S y sc r
    | _ => false)
  | S, .cmp op x y, sc, a => (match a with
    | .Compare l [o] [r] _ => decide (cmpOf op = o) && chkE S x sc l && chkE S y sc r
    | _ => false)
  | S, .chain o1 o2 x y z, sc, a => (match a with
    | .Compare l [p1, p2] [m, r] _ => decide (cmpOf o1 = p1) && decide (cmpOf o2 = p2) && chkE S x sc l && chkE S y sc m && chkE S z sc r
    | _ => false)
  | S, .and x y, sc, a => (match a with
    | .BoolOp .And [l, r] _ => chkE S x sc l && chkE S y sc r
    | .BoolOp .And (l :: r :: r2 :: rs) p => chkE S x sc l && chkE S y sc (.BoolOp .And (r :: r2 :: rs) p)
    | _ => false)
  | S, .or x y, sc, a => (match a with
    | .BoolOp .Or [l, r] _ => chkE S x sc l && chkE S y sc r
    | .BoolOp .Or (l :: r :: r2 :: rs) p => chkE S x sc l && chkE S y sc (.BoolOp .Or (r :: r2 :: rs) p)
    | _ => false)
  | S, .not x, sc, a => (match a with
    | .UnaryOp .Not l _ => chkE S x sc l
    | _ => false)
  | S, .ite c x y, sc, a => (match a with
    | .IfExp t l r _ => chkE S c sc t && chkE S x sc l && chkE S y sc r
    | _ => false)
  | S, .neg x, sc, a => (match a with
    | .UnaryOp .USub l _ => chkE S x sc l
    | _ => false)
  | S, .sub x i, sc, a => (match a with
    | .Subscript l r _ => chkE S x sc l && chkE S i sc r
    | _ => false)
  | S, .slice x lo hi, sc, a => (match a with
    | .Subscript l (.Slice u v none _) _ => chkE S x sc l && chkO S lo sc u && chkO S hi sc v
    | _ => false)
  | S, .call f es, sc, a => (match a with
    | .Call (.Name x _) (l :: ls) [] _ => decide (x = f) && glB sc x && (match S.T.lookup f with
      | some F => es.len == F.np
      | none => false) && chkEs S es sc (l :: ls)
    | _ => false)
  | S, .bi b es, sc, a => (match a with
    | .Call (.Name x _) (l :: ls) [] _ => decide (x = biName b) && glB sc x && (match biTy b with
      | some T => (match ls with
        | [.Name t _] => decide (t = Str.ofString T) && glB sc t && chkEs S es sc [l]
        | _ => false)
      | none => chkEs S es sc (l :: ls))
    | _ => false)
  | S, .comp own tg it cs elt, sc, a => (match a with
    | .ListComp el [⟨tx, ix, ifs, 0⟩] scope _ => blkC S.N sc scope (ownL S.N own) && tgR S.N scope (relS scope sc) tg tx && tg.ix.all own.contains && itTg it tg && own.all (fun i => decide (i < S.N.length)) && chkI S it sc ix && (match ifs with
      | [] => chkEs S cs (relS scope sc) []
      | [c] => chkEs S cs (relS scope sc) [c]
      | _ => false) && chkE S elt (relS scope sc) el
    | _ => false)
  | S, .compR own tg it elt, sc, a => (match a with
    | .ListComp el [⟨tx, ix, [], 0⟩] scope _ => blkC S.N sc scope (ownL S.N own) && tgR S.N scope (relS scope sc) tg tx && tg.ix.all own.contains && itTg it tg && own.all (fun i => decide (i < S.N.length)) && chkI S it sc ix && chkE S elt (relS scope sc) el
    | _ => false)
  | S, .gdict x i kvs, sc, a => (match a with
    | .Subscript (.Name y _) r _ => decide (x = y) && glB sc y && (match S.DT.lookup x with
      | some k => kvsEq kvs k
      | none => false) && chkE S i sc r
    | _ => false)
  | S, .ingdict neg x i kvs, sc, a => (match a with
    | .Compare l [o] [.Name y _] _ => decide ((if neg then CmpOp.NotIn else CmpOp.In) = o) && decide (x = y) && glB sc y && (match S.DT.lookup x with
      | some k => kvsEq kvs k
      | none => false) && chkE S i sc l
    | _ => false)
  | S, .pop i, sc, a => (match a with
    | .Call (.Attribute (.Name x _) m ap) [] [] cp => decide (m = ("pop" : Str)) && nmB S.N i x && visB sc x && (ap.endLine == cp.line)
    | _ => false)
  | S, .said f tbl e, sc, a => (match a with
    | .Call (.Name x _) [.Lambda params body scope _] [] _ => decide (S.L = some (f, tbl)) && decide (x = f) && glB sc x && lamArgs params && LamX.lamSB sc scope && chkE ⟨S.T, S.GT, S.DT, S.CT, S.N, none⟩ e scope body
    | _ => false)
  | S, .join x s e, sc, a => (match a with
    | .Call (.Attribute o m ap) [b] [] cp => decide (m = ("join" : Str)) && (ap.endLine == cp.line) && (match x, o with
      | none, .Constant (.str s') _ _ => decide (s = s')
      | some x, .Name y _ => decide (x = y) && glB sc y && (match S.GT.lookup x with
        | some (.str s') => decide (s = s')
        | _ => false)
      | _, _ => false) && chkE S e sc b
    | _ => false)
  | S, .split s e, sc, a => (match a with
    | .Call (.Attribute o m ap) [.Constant (.str s') _ _] [] cp => decide (m = ("split" : Str)) && (ap.endLine == cp.line) && decide (s = s') && noSup o && chkE S e sc o
    | _ => false)
  | S, .rev e, sc, a => (match a with
    | .Subscript o (.Slice none none (some (.UnaryOp .USub (.Constant (.int i) _ _) _)) _) _ => decide (i = 1) && chkE S e sc o
    | _ => false)
  | S, .disp1 k v, sc, a => (match a with
    | .Dict [some kx] [vx] _ => chkE S k sc kx && chkE S v sc vx
    | _ => false)
  | S, .get2 i k d, sc, a => (match a with
    | .Call (.Attribute (.Name y _) m ap) [p, q] [] cp => decide (m = ("get" : Str)) && nmB S.N i y && visB sc y && (ap.endLine == cp.line) && chkE S k sc p && chkE S d sc q
    | _ => false)
  | S, .get1 i k, sc, a => (match a with
    | .Call (.Attribute (.Name y _) m ap) [p] [] cp => decide (m = ("get" : Str)) && nmB S.N i y && visB sc y && (ap.endLine == cp.line) && chkE S k sc p
    | _ => false)
  | S, .zipl x y, sc, a => (match a with
    | .Call (.Name f _) [.Call (.Name g _) [p, q] [] _] [] _ => decide (f = ("list" : Str)) && glB sc f && decide (g = ("zip" : Str)) && glB sc g && chkE S x sc p && chkE S y sc q
    | _ => false)
def chkEs : Sx → Es → Scope → List Expr → Bool
  | S, .nil, _, l => l.isEmpty
  | S, .cons e es, sc, l => (match l with
    | a :: as => chkE S e sc a && chkEs S es sc as
    | [] => false)
def chkO : Sx → O → Scope → Option Expr → Bool
  | S, .none, _, a => a.isNone
  | S, .some e, sc, a => (match a with
    | some a => chkE S e sc a
    | none => false)
def chkI : Sx → It → Scope → Expr → Bool
  | S, .seq e, sc, a => chkE S e sc a
  | S, .range1 x, sc, a => (match a with
    | .Call (.Name f _) [p] [] _ => decide (f = ("range" : Str)) && glB sc f && chkE S x sc p
    | _ => false)
  | S, .range2 x y, sc, a => (match a with
    | .Call (.Name f _) [p, q] [] _ => decide (f = ("range" : Str)) && glB sc f && chkE S x sc p && chkE S y sc q
    | _ => false)
  | S, .range3 x y z, sc, a => (match a with
    | .Call (.Name f _) [p, q, r] [] _ => decide (f = ("range" : Str)) && glB sc f && chkE S x sc p && chkE S y sc q && chkE S z sc r
    | _ => false)
  | S, .enum x, sc, a => (match a with
    | .Call (.Name f _) [p] [] _ => decide (f = ("enumerate" : Str)) && glB sc f && chkE S x sc p
    | _ => false)
  | S, .zip x y, sc, a => (match a with
    | .Call (.Name f _) [p, q] [] _ => decide (f = ("zip" : Str)) && glB sc f && chkE S x sc p && chkE S y sc q
    | _ => false)
  | S, .keys e, sc, a => chkE S e sc a
end
theorem chk_ok {S : Sx} {e : E} {sc : Scope} {a : Expr} (h : chkE S e sc a = true) : okE a = true := by
  cases e <;> (unfold chkE at h; first | (split at h <;> first | rfl | cases h) | cases h)
theorem ok_star {a : Expr} {as : List Expr} {env : Env} (h : okE a = true) : starEach (a :: as) env = (false, eval a env) :: starEach as env := by
  cases a <;> first | rfl | cases h
theorem ok_plain {a : Expr} (h : okE a = true) : PlainIx a := by
  cases a <;> first | (intro o i; rfl) | cases h
theorem ok_mark {a : Expr} {op : CmpOp} (h : okE a = true) : behindInMarks op a = false := by
  cases a <;> first | rfl | cases h
theorem ok_fold {a : Expr} {env : Env} (h : okE a = true) (x : Value) : foldedSetIterable a env x = pure x := by
  cases a <;> first | rfl | cases h
theorem star_any {S : Sx} {sc : Scope} {env : Env} {pos : Pos} : ∀ {es : Es} {as : List Expr}, chkEs S es sc as = true → (backTo pos (starEach as env)).any (·.1) = false
  | .nil, as, h => by
    unfold chkEs at h
    cases as with
    | nil => rfl
    | cons _ _ => cases h
  | .cons e es, [], h => by unfold chkEs at h; cases h
  | .cons e es, a :: as, h => by
    unfold chkEs at h
    rw [Bool.and_eq_true] at h
    rw [ok_star (chk_ok h.1)]
    show (false || (backTo pos (starEach as env)).any (·.1)) = false
    rw [star_any h.2]
    rfl
end Ev

set_option Elab.async false
set_option linter.all false
set_option maxRecDepth 100000
set_option maxHeartbeats 4000000
/-! Readings of expressions; contexts. -/
namespace Ev
open PySem PySem.Spec PyProof.Rows L2
section
variable (K : PySem.W.Frag) (Tl : List (Addr × Str)) (Cv : Str → Value)
/-- what is wanted of an evaluation's end; exceptions go to W -/
def RP (W : WX) (Z F : Hp) (σ : L2.St) {α : Type} (res : Res α) (post : α → Sts → Prop) : Prop := match res with
  | .ok a δ' => post a δ'
  | .exc c δ' => ∀ H', PostS K Tl Z F δ' σ H' → W (Cv c) none σ H'
  | .stuck => False
def tE (W : WX) (ev : Sts → Res RV) (q : Bool) : TE := fun σ H Q => ∃ Z F δ ow, StR K Tl Z F δ σ H ow ∧ RP K Tl Cv W Z F σ (ev δ) fun r δ' => ∀ v H', PostE K Tl Z F δ' σ H r q v H' → Q v H'
def tT (W : WX) (ev : Sts → Res Bool) : TT := fun σ H Q => ∃ Z F δ ow, StR K Tl Z F δ σ H ow ∧ RP K Tl Cv W Z F σ (ev δ) fun b δ' => ∀ H', PostS K Tl Z F δ' σ H' → Q b H'
end
section
variable {K : PySem.W.Frag} {Tl : List (Addr × Str)} {Cv : Str → Value} {W : WX} {Z F Z1 F1 : Hp} {σ : L2.St} {α β : Type}
theorem RP.bind {m : Res α} {f : α → Sts → Res β} {post : β → Sts → Prop} (h : RP K Tl Cv W Z F σ (m.bind f) post) : RP K Tl Cv W Z F σ m fun a δ' => RP K Tl Cv W Z F σ (f a δ') post := by
  cases m <;> exact h
theorem RP.imp {m : Res α} {post post' : α → Sts → Prop} (h : RP K Tl Cv W Z F σ m post) (hp : ∀ a δ', post a δ' → post' a δ') : RP K Tl Cv W Z F σ m post' := by
  cases m
  · exact hp _ _ h
  · exact h
  · exact h
theorem PostS.weak {δ : Sts} {H : Hp} (g : Gr Z F Z1) (f : Same F F1) (h : PostS K Tl Z1 F1 δ σ H) : PostS K Tl Z F δ σ H := by
  obtain ⟨Z', ow', g', st⟩ := h
  exact ⟨Z', ow', g.trans f g', st.drop f⟩
theorem RP.weak {m : Res α} {post : α → Sts → Prop} (h : RP K Tl Cv W Z F σ m post) (g : Gr Z F Z1) (f : Same F F1) : RP K Tl Cv W Z1 F1 σ m post := by
  cases m
  · exact h
  · exact fun H' hp => h H' (hp.weak g f)
  · exact h
theorem RP.opt {o : Option α} {δ : Sts} {post : α → Sts → Prop} (h : RP K Tl Cv W Z F σ (Res.ofOpt o δ) post) : ∃ a, o = some a ∧ post a δ := by
  cases o with
  | none => exact (show False from h).elim
  | some a => exact ⟨a, rfl, h⟩
theorem PostE.weak {δ : Sts} {H H0 : Hp} {r : RV} {q q0 : Bool} {v : V} {H' : Hp} (g : Gr Z F Z1) (f : Same F F1) (hq : q0 = true → q = true ∧ Same H0 H) (h : PostE K Tl Z1 F1 δ σ H r q v H') : PostE K Tl Z F δ σ H0 r q0 v H' := by
  obtain ⟨Z', F', ow', g', f', st, rv, s⟩ := h
  refine ⟨Z', F', ow', g.trans f g', f.trans f', st, ?_, fun e => (hq e).2.trans (s (hq e).1)⟩
  cases r with
  | own sl =>
    obtain ⟨B, h1, h2⟩ := rv
    exact ⟨B, h1, fun a m => ⟨(h2 a m).1, f.free (h2 a m).2⟩⟩
  | _ => exact rv
theorem PE.imp {X : Cx} {e : Expr} {t t' : TE} (h : PE X e t) (hi : ∀ σ H Q, t' σ H Q → t σ H Q) : PE X e t' := ⟨fun pins s σ H Q I hw => h.run pins s σ H Q I (hi σ H Q hw)⟩
theorem PT.imp {X : Cx} {e : Expr} {t t' : TT} (h : PT X e t) (hi : ∀ σ H Q, t' σ H Q → t σ H Q) : PT X e t' := ⟨fun pins s σ H Q I hw => h.run pins s σ H Q I (hi σ H Q hw)⟩
theorem PA.imp {X : Cx} {e : List Expr} {t t' : TA} (h : PA X e t) (hi : ∀ σ H Q, t' σ H Q → t σ H Q) : PA X e t' := ⟨fun pos pins s σ H Q I hw => h.run pos pins s σ H Q I (hi σ H Q hw)⟩
end
/-! ### a def's promise -/
def SpF (K : PySem.W.Frag) (Tl : List (Addr × Str)) (Cv : Str → Value) (T : List (Str × Fn)) (n : Nat) (f : Str) : Sp := fun vs H Q E => ∃ Z F as ow, StR K Tl Z F as (vs.map some) H ow ∧ (match evF T n f as with
  | .ret r back => ∀ v H', PostE K Tl Z F back (vs.map some) H r false v H' → Q v H'
  | .exc c back => ∀ H', PostS K Tl Z F back (vs.map some) H' → E (Cv c) none H'
  | .stuck => False)
def cstR : D → Value → Prop
  | .int i, u => ∃ t, u = .int i t
  | .str x, u => ∃ t, u = .str x t
  | _, _ => False
/-- the names of the built-ins that the programs use -/
def bltNames : List Str := ["len", "isinstance", "all", "any", "tuple", "list", "sum", "min", "max", "abs", "int", "bool", "str", "range", "enumerate", "zip", "sorted", "repr", "dict", "set", "ValueError"]
structure Glo (S : Sx) (P : Program) (w : World) (K : PySem.W.Frag) (mg : Str → Option Value) (base : Heap) (Tl : List (Addr × Str)) (Cv : Str → Value) (n : Nat) : Prop where
  fns : ∀ f Fd, S.T.lookup f = some Fd → ∃ a fd, FnOk P w K mg base (L2.CX P w) (3 * n) a fd (Fd.names.take Fd.np) (SpF K Tl Cv S.T n f) ∧ mg f = some (.ref a) ∧ PySem.W.keepIn K (.ref a) = true ∧ Binds K fd (Fd.names.take Fd.np) []
  cst : ∀ x d, S.GT.lookup x = some d → ∃ u, mg x = some u ∧ cstR d u
  dct : ∀ x kvs, S.DT.lookup x = some kvs → ∃ a es m, mg x = some (.ref a) ∧ KDict K w a es m ∧ ∀ z : Str, (∀ d, lookA kvs (.inr z) = some d → ∃ u, PySem.W.nsIn K a z = some (some u) ∧ cstR d u) ∧ (lookA kvs (.inr z) = none → PySem.W.nsIn K a z = some none)
  blt : ∀ x ∈ bltNames, mg x = none
  exc : ∀ x ∈ S.CT, ∃ C : Addr, ∃ bmB : List Value, ∃ B newId initId : String, ExcBaseFacts B newId initId bmB ∧ PySem.W.excIn K C bmB newId = true ∧ mg x = some (.ref C) ∧ PySem.W.keepIn K (.ref C) = true ∧ PySem.W.subIn K (.ref C) (.type "BaseException") = some true ∧ PySem.W.typeIn K (.ref C) = some (.type "type") ∧ Cv x = .ref C
  fnp : ∀ f Fd, S.T.lookup f = some Fd → Fd.np ≤ Fd.names.length
/-- what a function that gets a lambda makes of its reading: told, or a word by the exception's class -/
def TTs (Cv : Str → Value) (tbl : List (Str × Str)) : (XK → Hp → VK → Prop) → Hp → VK → Prop := fun tl H Q =>
  tl (fun cls d H' => d = none ∧ ∃ c w, tbl.lookup c = some w ∧ cls = Cv c ∧ ∀ H'', Same H' H'' → Q (.str w) H'') H fun _ H' => Q (.str "told") H'
/-- the def that calls a lambda and tells what came -/
def SaidK (K : PySem.W.Frag) (mg : Str → Option Value) (Cv : Str → Value) (f : Str) (tbl : List (Str × Str)) : Prop :=
  ∃ (g : Addr) (pg : Arguments) (bg : List Stmt) (sg : Scope) (dV kV doc pm cdv ct oc : Value) (an od : Option Addr) (osl : Array (Option Value)) (Ng : List Str) (a : Str),
    mg f = some (.ref g) ∧ PySem.W.keepIn K (.ref g) = true ∧ K.lookup g = some ⟨oc, od, .func (PySem.W.fnOf f f pg bg sg dV kV doc pm an cdv ct), osl⟩ ∧ PySem.W.codeIn K cdv f = true ∧ L2.Binds K (PySem.W.fnOf f f pg bg sg dV kV doc pm an cdv ct) [a] [] ∧
    FnScope Ng [a] sg ∧ Ng[0]? = some a ∧ Vis sg a ∧ (a == ("__debug__" : Str)) = false ∧ (a == ("__classdict__" : Str)) = false ∧ ∀ (X : Cx) (q : Str), X.K = K → X.mg = mg → X.A.handled = none → LamX.GivesTo X Ng f sg g cdv bg a q (TTs Cv tbl)
structure LamK (Tl : List (Addr × Str)) (Cv : Str → Value) (n : Nat) (X : Cx) (f : Str) (tbl : List (Str × Str)) : Prop where
  room : Room (3 * n + 2) X.A
  code : ∃ c P, LamX.TabB X.base X.mg c P ∧ X.env.code = .ref c ∧ (P, X.env.qual ++ "<lambda>") ∈ Tl ∧ ∀ p ∈ Tl, p.1 = P → p.2 = X.env.qual ++ "<lambda>"
  said : SaidK X.K X.mg Cv f tbl
structure Cok (S : Sx) (Tl : List (Addr × Str)) (Cv : Str → Value) (n : Nat) (sc : Scope) (W : WX) (X : Cx) : Prop where
  N : X.N = S.N
  sc : X.env.scope = sc
  nd : S.N.Nodup
  calm : X.calm = true
  tk : Takes X W
  room : Room (3 * n) X.A
  lam : ∀ f tbl, S.L = some (f, tbl) → LamK Tl Cv n X f tbl
  glo : Glo S X.prog X.w X.K X.mg X.base Tl Cv n
section
variable {S : Sx} {Tl : List (Addr × Str)} {Cv : Str → Value} {n : Nat} {sc : Scope} {W : WX} {X : Cx}
theorem Cok.u65 (c : Cok S Tl Cv n sc W X) : X.A.units + 65 < cLine := by have := c.room.un; omega
theorem Cok.gl (c : Cok S Tl Cv n sc W X) {x : Str} (h : glB sc x = true) : Gl X x ∧ (x == ("__debug__" : Str)) = false := by
  unfold glB at h
  split at h
  · rename_i e
    refine ⟨?_, by simpa using h⟩
    show X.env.scope.names.lookup x = _
    rw [c.sc]; exact e
  · cases h
theorem Cok.vis (c : Cok S Tl Cv n sc W X) {x : Str} (h : visB sc x = true) : Vis X.env.scope x := by
  unfold visB at h
  rw [c.sc]
  split at h
  · exact .inl (by assumption)
  · exact .inr (.inl (by assumption))
  · exact .inr (.inr (by assumption))
  · cases h
theorem Cok.loc (c : Cok S Tl Cv n sc W X) {x : Str} (h : locB sc x = true) : Loc X.env.scope x := by
  unfold locB at h
  rw [c.sc]
  split at h
  · exact .inl (by assumption)
  · exact .inr (by assumption)
  · cases h
theorem nm_of {N : List Str} {i : Nat} {x : Str} (h : nmB N i x = true) : N[i]? = some x ∧ (x == ("__debug__" : Str)) = false ∧ (x == ("__classdict__" : Str)) = false := by
  unfold nmB at h
  simp only [Bool.and_eq_true, decide_eq_true_eq, Bool.not_eq_true'] at h
  exact ⟨h.1.1, h.1.2, h.2⟩
theorem cst_rel {d d' : D} {u : Value} (e : scEq d d' = true) (h : cstR d' u) : ∃ v, RelV v u ∧ ∀ K Z, Rp K Z v d := by
  unfold scEq at e
  split at e
  · have e := of_decide_eq_true e
    subst e
    exact ⟨.int _, h, fun _ _ => .int _⟩
  · have e := of_decide_eq_true e
    subst e
    exact ⟨.str _, h, fun _ _ => .str _⟩
  · cases e
/-- two expressions, one behind the other -/
theorem two {a b : E} {ea eb : Sts → Res RV} {qa qb : Bool} {α : Type} {k : RV → RV → Sts → Res α} {post : α → Sts → Prop} {K : PySem.W.Frag} {Z F : Hp} {δ : Sts} {σ : L2.St} {H : Hp} {ow : Nat → List Addr} {R : V → V → Hp → Prop}
    (st : StR K Tl Z F δ σ H ow) (h : RP K Tl Cv W Z F σ ((ea δ).bind fun ra δ1 => (eb δ1).bind fun rb δ2 => k ra rb δ2) post)
    (fin : ∀ x y H2 Z2 F2 δ2 ow2 ra rb, Gr Z F Z2 → Same F F2 → StR K Tl Z2 F2 δ2 σ H2 ow2 → ((isInn ra = true → qb = true) → RvR K F Z2 F2 H2 σ ra x) → RvR K F Z2 F2 H2 σ rb y → RP K Tl Cv W Z F σ (k ra rb δ2) post → ((qa && qb) = true → Same H H2) → R x y H2) :
    tE K Tl Cv W ea qa σ H fun x H1 => tE K Tl Cv W eb qb σ H1 fun y H2 => R x y H2 := by
  refine ⟨Z, F, δ, ow, st, h.bind.imp fun ra δ1 h1 x H1 ⟨Z1, F1, ow1, g1, f1, st1, r1, s1⟩ => ⟨Z1, F1, δ1, ow1, st1, (h1.bind.weak g1 f1).imp fun rb δ2 h2 y H2 ⟨Z2, F2, ow2, g2, f2, st2, r2, s2⟩ => ?_⟩⟩
  refine fin x y H2 Z2 F2 δ2 ow2 ra rb (g1.trans f1 g2) (f1.trans f2) st2 (fun hq => r1.mono g2 f2 fun e => s2 (hq e)) ?_ h2 fun hq => ?_
  · cases rb with
    | own sl =>
      obtain ⟨B, h1, h2⟩ := r2
      exact ⟨B, h1, fun a m => ⟨(h2 a m).1, f1.free (h2 a m).2⟩⟩
    | _ => exact r2
  · rw [Bool.and_eq_true] at hq
    exact (s1 hq.1).trans (s2 hq.2)
end
end Ev

set_option Elab.async false
set_option linter.all false
set_option maxRecDepth 100000
set_option maxHeartbeats 4000000
/-! The pieces of expressions. -/
namespace Ev
open PySem PySem.Spec PyProof.Rows L2
section
variable {S : Sx} {Tl : List (Addr × Str)} {Cv : Str → Value} {n : Nat} {sc : Scope} {W : WX} {X : Cx}
variable {a b c : Expr} {rest : List Expr} {ea eb ec : M RV} {qa qb qc : Bool} {pos : Pos}
theorem post_dat {K : PySem.W.Frag} {Z F : Hp} {δ : Sts} {σ : L2.St} {H : Hp} {ow : Nat → List Addr} {q : Bool} {d : D} {v : V} (st : StR K Tl Z F δ σ H ow) (h : Rp K Z v d) : PostE K Tl Z F δ σ H (.dat d) q v H :=
  ⟨Z, F, ow, Gr.refl _ _, Same.refl _, st, h, fun _ => Same.refl _⟩
theorem pe_kVar (ck : Cok S Tl Cv n sc W X) {i : Nat} {x : Str} (h1 : nmB S.N i x = true) (h2 : visB sc x = true) : PE X (.Name x pos) (tE X.K Tl Cv W (kVar i) true) := by
  obtain ⟨e1, e2, e3⟩ := nm_of h1
  refine PE.imp (pe_var (i := i) (by rw [ck.N]; exact e1) (ck.vis h2) e2 e3) fun σ H Q ⟨Z, F, δ, ow, st, h⟩ => ?_
  unfold kVar at h
  split at h
  · exact h.elim
  · rename_i d hd
    obtain ⟨v, ev, r⟩ := st.sl i (by rw [hd]; simp)
    rw [hd] at r
    exact ⟨v, ev, h v H (post_dat st r.1)⟩
  · rename_i h3 h4
    obtain ⟨v, ev, r⟩ := st.sl i h3
    exact ⟨v, ev, h v H ⟨Z, F, ow, Gr.refl _ _, Same.refl _, st, ev, fun _ => Same.refl _⟩⟩
/-- two operands and an operation that asks them as they stand -/
theorem bin_reads {K : PySem.W.Frag} {f : Slot → Slot → Option RV} (hf : ∀ t, f .emp t = none ∧ f t .emp = none) {σ : L2.St} {H : Hp} {Q : VK} (h : tE K Tl Cv W (kBin f qb ea eb) (qa && qb) σ H Q) :
    tE K Tl Cv W ea qa σ H fun x H1 => tE K Tl Cv W eb qb σ H1 fun y H2 => ∃ (Z : Hp) (s t : Slot) (r : RV), Same Z H2 ∧ ViR K Z H2 s x ∧ ViR K Z H2 t y ∧ f s t = some r ∧ ∀ v H', NewR K Z H2 r v H' → Q v H' := by
  obtain ⟨Z, F, δ, ow, st, h⟩ := h
  refine two (a := .newK) (b := .newK) st h fun x y H2 Z2 F2 δ2 ow2 ra rb g f' st2 r1 r2 hp hq => ?_
  by_cases hi : innOk ra qb = true
  · rw [if_pos hi] at hp
    obtain ⟨r, e, hp⟩ := hp.opt
    have hi : isInn ra = true → qb = true := fun e' => by cases ra <;> first | exact hi | cases e'
    have n1 : view ra δ2 ≠ .emp := fun z => by rw [z, (hf _).1] at e; cases e
    have n2 : view rb δ2 ≠ .emp := fun z => by rw [z, (hf _).2] at e; cases e
    exact ⟨Z2, _, _, r, st2.z, (r1 hi).view st2 n1, r2.view st2 n2, e, fun v H' hn => hp v H' (new_post st2 g f' hq hn)⟩
  · rw [if_neg hi] at hp
    exact hp.elim
theorem opV_emp (op : Op) (t : Slot) : opV op .emp t = none ∧ opV op t .emp = none := by
  constructor
  · cases op <;> rfl
  · cases op <;> (unfold opV; dsimp only; split <;> first | rfl | (rename_i h; cases h) | (rename_i h _; cases h) | skip)
theorem inV_emp (t : Slot) : Ev.inV .emp t = none ∧ Ev.inV t .emp = none := by
  constructor
  · cases t <;> first | rfl | (rename_i d; cases d <;> rfl)
  · rfl
theorem eqV_emp (t : Slot) : Ev.eqV .emp t = none ∧ Ev.eqV t .emp = none := by
  constructor
  · rfl
  · unfold Ev.eqV; cases dataOf t <;> rfl
theorem isV_emp (t : Slot) : isV .emp t = none ∧ isV t .emp = none := by
  constructor
  · cases t <;> first | rfl | (rename_i d; cases d <;> rfl)
  · rfl
theorem ltI_emp (t : Slot) (p) : ltI .emp t p = none ∧ ltI t .emp p = none := by
  constructor
  · rfl
  · cases t <;> first | rfl | (rename_i d; cases d <;> rfl)
theorem nnV_emp (t : Slot) : cmpV .isNone .emp t = none ∧ cmpV .notNone .emp t = none := by
  constructor <;> (cases t <;> first | rfl | (rename_i d; cases d <;> rfl))
theorem cmpV_emp (op : Cmp) (t : Slot) : fCmp op .emp t = none ∧ fCmp op t .emp = none := by
  unfold fCmp
  cases op with
  | eq => exact ⟨by rw [cmpV, (eqV_emp t).1]; rfl, by rw [cmpV, (eqV_emp t).2]; rfl⟩
  | ne => exact ⟨by rw [cmpV, (eqV_emp t).1]; rfl, by rw [cmpV, (eqV_emp t).2]; rfl⟩
  | lt => exact ⟨by rw [cmpV, (ltI_emp t _).1]; rfl, by rw [cmpV, (ltI_emp t _).2]; rfl⟩
  | le => exact ⟨by rw [cmpV, (ltI_emp t _).1]; rfl, by rw [cmpV, (ltI_emp t _).2]; rfl⟩
  | gt => exact ⟨by rw [cmpV, (ltI_emp t _).1]; rfl, by rw [cmpV, (ltI_emp t _).2]; rfl⟩
  | ge => exact ⟨by rw [cmpV, (ltI_emp t _).1]; rfl, by rw [cmpV, (ltI_emp t _).2]; rfl⟩
  | isin => exact ⟨by rw [cmpV, (inV_emp t).1]; rfl, by rw [cmpV, (inV_emp t).2]; rfl⟩
  | notin => exact ⟨by rw [cmpV, (inV_emp t).1]; rfl, by rw [cmpV, (inV_emp t).2]; rfl⟩
  | is => exact ⟨by rw [cmpV, (isV_emp t).1]; rfl, by rw [cmpV, (isV_emp t).2]; rfl⟩
  | isnot => exact ⟨by rw [cmpV, (isV_emp t).1]; rfl, by rw [cmpV, (isV_emp t).2]; rfl⟩
  | isNone => exact ⟨by rw [(nnV_emp t).1]; rfl, rfl⟩
  | notNone => exact ⟨by rw [(nnV_emp t).2]; rfl, rfl⟩
theorem subV_emp (t : Slot) : subV .emp t = none ∧ subV t .emp = none := by
  constructor
  · rfl
  · unfold subV
    split <;> rfl
theorem pe_cst {d : D} {c : Const} {j} (h : cstB d c = true) : PE X (.Constant c j pos) (tE X.K Tl Cv W (kConst (.dat d)) true) := by
  have fin : ∀ {v : V}, (∀ Z, Rp X.K Z v d) → ∀ σ H Q, tE X.K Tl Cv W (kConst (.dat d)) true σ H Q → tC v σ H Q := fun hv σ H Q ⟨Z, F, δ, ow, st, h⟩ => h _ H (post_dat st (hv Z))
  unfold cstB at h
  split at h
  · exact PE.imp pe_non (fin fun Z => .non)
  · cases eq_of_beq h
    exact PE.imp pe_bl (fin fun Z => .bl _)
  · cases of_decide_eq_true h
    exact PE.imp pe_int (fin fun Z => .int _)
  · cases of_decide_eq_true h
    exact PE.imp pe_str (fin fun Z => .str _)
  · cases h
theorem pe_glbc (ck : Cok S Tl Cv n sc W X) {x : Str} {d d' : D} (h1 : glB sc x = true) (h2 : S.GT.lookup x = some d') (h3 : scEq d d' = true) : PE X (.Name x pos) (tE X.K Tl Cv W (kConst (.dat d)) true) := by
  obtain ⟨u, hm, hu⟩ := ck.glo.cst x d' h2
  obtain ⟨v, r, hr⟩ := cst_rel h3 hu
  obtain ⟨g1, g2⟩ := ck.gl h1
  exact PE.imp (pe_glob g1 hm r g2) fun σ H Q ⟨Z, F, δ, ow, st, h⟩ => h v H (post_dat st (hr _ _))
theorem pe_kOp {op : Op} (ha : PE X a (tE X.K Tl Cv W ea qa)) (hb : PE X b (tE X.K Tl Cv W eb qb)) : PE X (.BinOp a (opOf op) b pos) (tE X.K Tl Cv W (kBin (fOp op) qb ea eb) (qa && qb)) :=
  PE.imp (pe_op (opV_ok op) ha hb) fun σ H Q h => bin_reads (opV_emp op) h
theorem cmp_reads {K : PySem.W.Frag} {op : Cmp} {σ : L2.St} {H : Hp} {Q : VK} (h : tE K Tl Cv W (kBin (fCmp op) qb ea eb) (qa && qb) σ H Q) :
    tOp (fun x y H Q => rCmpV K op x y H Q) (tE K Tl Cv W ea qa) (tE K Tl Cv W eb qb) σ H Q := by
  obtain ⟨Z, F, δ, ow, st, h⟩ := bin_reads (cmpV_emp op) h
  refine ⟨Z, F, δ, ow, st, h.imp fun ra δ1 h1 x H1 hp => ?_⟩
  obtain ⟨Z, F, δ, ow, st, h⟩ := h1 x H1 hp
  refine ⟨Z, F, δ, ow, st, h.imp fun rb δ2 h2 y H2 hp => ?_⟩
  obtain ⟨Z, s, t, r, z, v1, v2, e, q⟩ := h2 y H2 hp
  unfold fCmp at e
  obtain ⟨c, ec, er⟩ := Option.map_eq_some_iff.mp e
  subst er
  exact ⟨Z, s, t, c, z, v1, v2, ec, q _ _ (.inl ⟨rfl, .bl c⟩)⟩
theorem pe_kCmp (ck : Cok S Tl Cv n sc W X) {op : Cmp} (ha : PE X a (tE X.K Tl Cv W ea qa)) (hb : PE X b (tE X.K Tl Cv W eb qb)) (ob : okE b = true) : PE X (.Compare a [cmpOf op] [b] pos) (tE X.K Tl Cv W (kBin (fCmp op) qb ea eb) (qa && qb)) :=
  PE.imp (pe_cmpR (cmpV_ok op ck.u65) ha hb (ok_mark ob)) fun σ H Q h => cmp_reads h
theorem pe_kSub (ck : Cok S Tl Cv n sc W X) (ha : PE X a (tE X.K Tl Cv W ea qa)) (hb : PE X b (tE X.K Tl Cv W eb qb)) (ob : okE b = true) : PE X (.Subscript a b pos) (tE X.K Tl Cv W (kBin subV qb ea eb) (qa && qb)) :=
  PE.imp (pe_ix (subV_ok (by have := ck.u65; omega)) ha hb (ok_plain ob)) fun σ H Q h => bin_reads subV_emp h
theorem post_of {K : PySem.W.Frag} {Z F Z2 F2 : Hp} {δ : Sts} {σ : L2.St} {H H2 : Hp} {ow : Nat → List Addr} {q : Bool} {d : D} {v : V} (g : Gr Z F Z2) (f : Same F F2) (st : StR K Tl Z2 F2 δ σ H2 ow) (h : Rp K Z2 v d) (s : q = true → Same H H2) : PostE K Tl Z F δ σ H (.dat d) q v H2 :=
  ⟨Z2, F2, ow, g, f, st, h, s⟩
theorem rp_bl {K : PySem.W.Frag} {Z : Hp} {v : V} {b : Bool} (h : Rp K Z v (.bool b)) : v = .bl b := by cases h; rfl
theorem rp_int {K : PySem.W.Frag} {Z : Hp} {v : V} {b : Int} (h : Rp K Z v (.int b)) : v = .int b := by cases h; rfl
theorem rp_str {K : PySem.W.Frag} {Z : Hp} {v : V} {b : Str} (h : Rp K Z v (.str b)) : v = .str b := by cases h; rfl
/-- from an expression's end into the next reading -/
theorem RP.go {K : PySem.W.Frag} {Z F Z1 F1 : Hp} {δ1 : Sts} {σ : L2.St} {H1 : Hp} {ow1 : Nat → List Addr} {α : Type} {m : Res α} {post : α → Sts → Prop} (h : RP K Tl Cv W Z F σ m post) (g : Gr Z F Z1) (f : Same F F1) : RP K Tl Cv W Z1 F1 σ m post := h.weak g f
theorem pe_kAnd (ha : PE X a (tE X.K Tl Cv W ea qa)) (hb : PE X (.BoolOp .And (b :: rest) pos) (tE X.K Tl Cv W eb qb)) : PE X (.BoolOp .And (a :: b :: rest) pos) (tE X.K Tl Cv W (kAnd ea eb) false) := by
  refine PE.imp (pe_and ha hb) fun σ H Q ⟨Z, F, δ, ow, st, h⟩ => ⟨Z, F, δ, ow, st, h.bind.imp fun ra δ1 h1 x H1 ⟨Z1, F1, ow1, g1, f1, st1, r1, s1⟩ => ?_⟩
  split at h1
  · refine ⟨true, rp_bl r1, ?_⟩
    rw [if_pos rfl]
    exact ⟨Z1, F1, δ1, ow1, st1, (h1.weak g1 f1).imp fun rb δ2 h2 y H2 hp => h2 y H2 (hp.weak g1 f1 (fun e => by cases e))⟩
  · refine ⟨false, rp_bl r1, ?_⟩
    rw [if_neg (by simp)]
    exact h1 _ _ (post_of g1 f1 st1 (.bl _) (fun e => by cases e))
  · exact h1.elim
theorem pe_kOr (ha : PE X a (tE X.K Tl Cv W ea qa)) (hb : PE X (.BoolOp .Or (b :: rest) pos) (tE X.K Tl Cv W eb qb)) : PE X (.BoolOp .Or (a :: b :: rest) pos) (tE X.K Tl Cv W (kOr ea eb) false) := by
  refine PE.imp (pe_or ha hb) fun σ H Q ⟨Z, F, δ, ow, st, h⟩ => ⟨Z, F, δ, ow, st, h.bind.imp fun ra δ1 h1 x H1 ⟨Z1, F1, ow1, g1, f1, st1, r1, s1⟩ => ?_⟩
  split at h1
  · refine ⟨false, rp_bl r1, ?_⟩
    rw [if_neg (by simp)]
    exact ⟨Z1, F1, δ1, ow1, st1, (h1.weak g1 f1).imp fun rb δ2 h2 y H2 hp => h2 y H2 (hp.weak g1 f1 (fun e => by cases e))⟩
  · refine ⟨true, rp_bl r1, ?_⟩
    rw [if_pos rfl]
    exact h1 _ _ (post_of g1 f1 st1 (.bl _) (fun e => by cases e))
  · exact h1.elim
theorem pe_kNot (ha : PE X a (tE X.K Tl Cv W ea qa)) : PE X (.UnaryOp .Not a pos) (tE X.K Tl Cv W (kNot ea) qa) := by
  refine PE.imp (pe_not ha) fun σ H Q ⟨Z, F, δ, ow, st, h⟩ => ⟨Z, F, δ, ow, st, h.bind.imp fun ra δ1 h1 x H1 ⟨Z1, F1, ow1, g1, f1, st1, r1, s1⟩ => ?_⟩
  split at h1
  · exact ⟨_, rp_bl r1, h1 _ _ (post_of g1 f1 st1 (.bl _) s1)⟩
  · exact h1.elim
theorem pe_kNeg (ha : PE X a (tE X.K Tl Cv W ea qa)) : PE X (.UnaryOp .USub a pos) (tE X.K Tl Cv W (kNeg ea) qa) := by
  refine PE.imp (pe_un un_neg ha) fun σ H Q ⟨Z, F, δ, ow, st, h⟩ => ⟨Z, F, δ, ow, st, h.bind.imp fun ra δ1 h1 x H1 ⟨Z1, F1, ow1, g1, f1, st1, r1, s1⟩ => ?_⟩
  split at h1
  · exact ⟨_, rp_int r1, h1 _ _ (post_of g1 f1 st1 (.int _) s1)⟩
  · exact h1.elim
theorem pe_kIte {et : M Bool} (hc : PT X c (tT X.K Tl Cv W et)) (ha : PE X a (tE X.K Tl Cv W ea qa)) (hb : PE X b (tE X.K Tl Cv W eb qb)) : PE X (.IfExp c a b pos) (tE X.K Tl Cv W (kIte et ea eb) false) := by
  refine PE.imp (pe_ifExp hc ha hb) fun σ H Q ⟨Z, F, δ, ow, st, h⟩ => ⟨Z, F, δ, ow, st, h.bind.imp fun k δ1 h1 H1 ⟨Z1, ow1, g1, st1⟩ => ?_⟩
  cases k with
  | true =>
    rw [if_pos rfl] at h1 ⊢
    exact ⟨Z1, F, δ1, ow1, st1, (h1.weak g1 (Same.refl _)).imp fun rb δ2 h2 y H2 hp => h2 y H2 (hp.weak g1 (Same.refl _) (fun e => by cases e))⟩
  | false =>
    rw [if_neg (by simp)] at h1 ⊢
    exact ⟨Z1, F, δ1, ow1, st1, (h1.weak g1 (Same.refl _)).imp fun rb δ2 h2 y H2 hp => h2 y H2 (hp.weak g1 (Same.refl _) (fun e => by cases e))⟩
theorem marks_ok {o o' : CmpOp} (h : okE c = true) : lastMarks [o, o'] [b, c] = false := by
  show behindInMarks o' c = false
  exact ok_mark h
theorem viR_dat {K : PySem.W.Frag} {Z H : Hp} {v : V} {d : D} (h : Rp K Z v d) : ViR K Z H (.dat d) v := ⟨[], h, rfl⟩
theorem chain_reads {K : PySem.W.Frag} {o1 o2 : Cmp} {σ : L2.St} {H : Hp} {Q : VK} (h : tE K Tl Cv W (kChain o1 o2 ea eb ec) false σ H Q) :
    tChain (fun x y H Q => rCmpV K o1 x y H Q) (fun x y H Q => rCmpV K o2 x y H Q) (tE K Tl Cv W ea qa) (tE K Tl Cv W eb qb) (tE K Tl Cv W ec qc) σ H Q := by
  obtain ⟨Z, F, δ, ow, st, h⟩ := h
  refine ⟨Z, F, δ, ow, st, h.bind.imp fun ra δ1 h1 x H1 ⟨Z1, F1, ow1, g1, f1, st1, r1, s1⟩ => ⟨Z1, F1, δ1, ow1, st1, (h1.bind.weak g1 f1).imp fun rb δ2 h2 y H2 ⟨Z2, F2, ow2, g2, f2, st2, r2, s2⟩ => ?_⟩⟩
  cases ra with
  | dat dx => cases rb with
    | dat dy =>
      have r1' : Rp K Z2 x dx := Rp.mono g2.s r1
      have r2' : Rp K Z2 y dy := r2
      dsimp only at h2
      split at h2
      · rename_i e
        refine ⟨Z2, _, _, true, st2.z, viR_dat r1', viR_dat r2', e, true, rfl, ?_⟩
        rw [if_pos rfl]
        refine ⟨Z2, F2, δ2, ow2, st2, (h2.bind.weak (g1.trans f1 g2) (f1.trans f2)).imp fun rc δ3 h3 z H3 ⟨Z3, F3, ow3, g3, f3, st3, r3, s3⟩ => ?_⟩
        cases rc with
        | dat dz =>
          obtain ⟨r, e3, hp⟩ := h3.opt
          obtain ⟨k, ek, er⟩ := Option.map_eq_some_iff.mp e3
          subst er
          exact ⟨Z3, _, _, k, st3.z, viR_dat (Rp.mono g3.s r2'), viR_dat r3, ek, hp _ _ (post_of ((g1.trans f1 g2).trans (f1.trans f2) g3) ((f1.trans f2).trans f3) st3 (.bl _) (fun e => by cases e))⟩
        | _ => exact (show False from h3).elim
      · rename_i e
        refine ⟨Z2, _, _, false, st2.z, viR_dat r1', viR_dat r2', e, false, rfl, ?_⟩
        rw [if_neg (by simp)]
        exact h2 _ _ (post_of (g1.trans f1 g2) (f1.trans f2) st2 (.bl _) (fun e => by cases e))
      · exact h2.elim
    | _ => exact (show False from h2).elim
  | _ => exact (show False from h2).elim
theorem pe_kChain (ck : Cok S Tl Cv n sc W X) {o1 o2 : Cmp} (ha : PE X a (tE X.K Tl Cv W ea qa)) (hb : PE X b (tE X.K Tl Cv W eb qb)) (hc : PE X c (tE X.K Tl Cv W ec qc)) (oc : okE c = true) :
    PE X (.Compare a [cmpOf o1, cmpOf o2] [b, c] pos) (tE X.K Tl Cv W (kChain o1 o2 ea eb ec) false) :=
  PE.imp (pe_chain (cmpV_ok o1 ck.u65) (cmpV_ok o2 ck.u65) ha hb hc (marks_ok oc)) fun σ H Q h => chain_reads h
/-! ### tests -/
/-- a value's end as the reading of its test -/
theorem test_reads {K : PySem.W.Frag} {t : Slot → Option Bool} {ev : M RV} {q : Bool} {σ : L2.St} {H : Hp} {Q : Bool → Hp → Prop} (h0 : t .emp = none) (h : tT K Tl Cv W (kTest t ev) σ H Q) :
    tE K Tl Cv W ev q σ H fun x H1 => ∃ (Z : Hp) (s : Slot) (c : Bool), Same Z H1 ∧ ViR K Z H1 s x ∧ t s = some c ∧ Q c H1 := by
  obtain ⟨Z, F, δ, ow, st, h⟩ := h
  refine ⟨Z, F, δ, ow, st, h.bind.imp fun ra δ1 h1 x H1 ⟨Z1, F1, ow1, g1, f1, st1, r1, s1⟩ => ?_⟩
  obtain ⟨c, e, hp⟩ := h1.opt
  have n1 : view ra δ1 ≠ .emp := fun z => by rw [z, h0] at e; cases e
  exact ⟨Z1, _, c, st1.z, r1.view st1 n1, e, hp H1 ⟨Z1, ow1, g1, st1.drop f1⟩⟩
theorem pt_kTest {ev : M RV} {q : Bool} {e : Expr} (h : PE X e (tE X.K Tl Cv W ev q))
    (he : ∀ whole, isTrue e X.env whole = (do let v ← whole; standAt e.pos; holding [v] (truthy v))) : PT X e (tT X.K Tl Cv W (kTest truV ev)) := by
  refine ⟨fun pins s σ H Q I hw => ?_⟩
  refine isTrue_plain (thn (h.run pins s σ H _ I (test_reads rfl hw)) fun v s1 hx => ?_) (he _)
  obtain ⟨x, H1, I1, r1, q1⟩ := hx
  exact truV_ok pins s1 σ H1 x v Q I1 r1 q1
theorem bool_reads {K : PySem.W.Frag} {ev : M RV} {q : Bool} {σ : L2.St} {H : Hp} {Q : Bool → Hp → Prop} (h : tT K Tl Cv W (kTest boolOf ev) σ H Q) :
    tE K Tl Cv W ev q σ H fun x H1 => ∃ k, x = .bl k ∧ Q k H1 := by
  obtain ⟨Z, F, δ, ow, st, h⟩ := test_reads (q := q) rfl h
  refine ⟨Z, F, δ, ow, st, h.imp fun ra δ1 h1 x H1 hp => ?_⟩
  obtain ⟨Z, s, c, z, v1, e, q⟩ := h1 x H1 hp
  unfold boolOf at e
  split at e
  · cases e
    exact ⟨c, v1.bool, q⟩
  · cases e
theorem pt_kCmp (ck : Cok S Tl Cv n sc W X) {op : Cmp} (ha : PE X a (tE X.K Tl Cv W ea qa)) (hb : PE X b (tE X.K Tl Cv W eb qb)) (ob : okE b = true) : PT X (.Compare a [cmpOf op] [b] pos) (tT X.K Tl Cv W (kTest boolOf (kBin (fCmp op) qb ea eb))) :=
  PT.imp (pt_cmpR (cmpV_ok op ck.u65) ha hb (ok_mark ob)) fun σ H Q h => cmp_reads (bool_reads h)
theorem pt_kChain (ck : Cok S Tl Cv n sc W X) {o1 o2 : Cmp} (ha : PE X a (tE X.K Tl Cv W ea qa)) (hb : PE X b (tE X.K Tl Cv W eb qb)) (hc : PE X c (tE X.K Tl Cv W ec qc)) (oc : okE c = true) :
    PT X (.Compare a [cmpOf o1, cmpOf o2] [b, c] pos) (tT X.K Tl Cv W (kTest boolOf (kChain o1 o2 ea eb ec))) :=
  PT.imp (pt_chain (cmpV_ok o1 ck.u65) (cmpV_ok o2 ck.u65) ha hb hc (marks_ok oc)) fun σ H Q h => chain_reads (bool_reads h)
variable {t1 t2 : M Bool}
theorem and_reads {K : PySem.W.Frag} {σ : L2.St} {H : Hp} {Q : Bool → Hp → Prop} (h : tT K Tl Cv W (kIte t1 t2 (kConst false)) σ H Q) : tAnd (tT K Tl Cv W t1) (tT K Tl Cv W t2) σ H Q := by
  obtain ⟨Z, F, δ, ow, st, h⟩ := h
  refine ⟨Z, F, δ, ow, st, h.bind.imp fun k δ1 h1 H1 ⟨Z1, ow1, g1, st1⟩ => ?_⟩
  cases k with
  | true =>
    rw [if_pos rfl] at h1 ⊢
    exact ⟨Z1, F, δ1, ow1, st1, (h1.weak g1 (Same.refl _)).imp fun rb δ2 h2 H2 hp => h2 H2 (hp.weak g1 (Same.refl _))⟩
  | false =>
    rw [if_neg (by simp)] at h1 ⊢
    exact h1 H1 ⟨Z1, ow1, g1, st1⟩
theorem or_reads {K : PySem.W.Frag} {σ : L2.St} {H : Hp} {Q : Bool → Hp → Prop} (h : tT K Tl Cv W (kIte t1 (kConst true) t2) σ H Q) : tOr (tT K Tl Cv W t1) (tT K Tl Cv W t2) σ H Q := by
  obtain ⟨Z, F, δ, ow, st, h⟩ := h
  refine ⟨Z, F, δ, ow, st, h.bind.imp fun k δ1 h1 H1 ⟨Z1, ow1, g1, st1⟩ => ?_⟩
  cases k with
  | true =>
    rw [if_pos rfl] at h1 ⊢
    exact h1 H1 ⟨Z1, ow1, g1, st1⟩
  | false =>
    rw [if_neg (by simp)] at h1 ⊢
    exact ⟨Z1, F, δ1, ow1, st1, (h1.weak g1 (Same.refl _)).imp fun rb δ2 h2 H2 hp => h2 H2 (hp.weak g1 (Same.refl _))⟩
theorem pw_kAnd (ha : PT X a (tT X.K Tl Cv W t1)) (hb : PW X (.BoolOp .And (b :: rest) pos) (tT X.K Tl Cv W t2)) : PW X (.BoolOp .And (a :: b :: rest) pos) (tT X.K Tl Cv W (kIte t1 t2 (kConst false))) :=
  ⟨fun wh pins s σ H Q I h => (pw_and ha hb).run wh pins s σ H Q I (and_reads h)⟩
theorem pw_kOr (ha : PT X a (tT X.K Tl Cv W t1)) (hb : PW X (.BoolOp .Or (b :: rest) pos) (tT X.K Tl Cv W t2)) : PW X (.BoolOp .Or (a :: b :: rest) pos) (tT X.K Tl Cv W (kIte t1 (kConst true) t2)) :=
  ⟨fun wh pins s σ H Q I h => (pw_or ha hb).run wh pins s σ H Q I (or_reads h)⟩
theorem pt_kNot (ha : PT X a (tT X.K Tl Cv W t1)) : PT X (.UnaryOp .Not a pos) (tT X.K Tl Cv W (fun δ => (t1 δ).bind fun k δ => .ok (!k) δ)) :=
  PT.imp (pt_not ha) fun σ H Q ⟨Z, F, δ, ow, st, h⟩ => ⟨Z, F, δ, ow, st, h.bind.imp fun k δ1 h1 H1 hp => h1 H1 hp⟩
end
end Ev

set_option Elab.async false
set_option linter.all false
set_option maxRecDepth 100000
set_option maxHeartbeats 4000000
/-! Values for good; argument lists; calls. -/
namespace Ev
open PySem PySem.Spec PyProof.Rows L2
section
variable {K : PySem.W.Frag} {Tl : List (Addr × Str)} {Cv : Str → Value} {W : WX} {Z F G F' Z' : Hp} {δ : Sts} {σ σ' : L2.St} {H H' : Hp} {ow : Nat → List Addr} {s : Slot} {v : V} {B : List Addr} {i : Nat}
theorem slr_ne (h : SlR K Z G s v B) : s ≠ .emp := by rintro rfl; exact h.elim
/-- a slot written -/
theorem StR.put (st : StR K Tl Z F δ σ H ow) (hi : i < δ.length) (hl : σ'.length = σ.length) (hv : σ'[i]? = some (some v)) (ho : ∀ j, j ≠ i → σ'[j]? = σ[j]?) (h : SlR K Z H s v B) (hB : ∀ a ∈ B, Z a = none ∧ F a = none ∧ ∀ j, j ≠ i → a ∉ ow j) :
    StR K Tl Z F (δ.set i s) σ' H (fun j => if j = i then B else ow j) := by
  refine ⟨st.z, st.f, fun j hj => ?_, fun j hj => ?_, fun j k a hj hk => ?_, fun j a hj => ?_, by rw [List.length_set, hl, st.ln], st.tb, st.nz, st.nf⟩
  · rw [getS_set hi] at hj ⊢
    by_cases c : j = i
    · subst c; simp only [if_pos]; exact ⟨v, hv, h⟩
    · simp only [if_neg c] at hj ⊢
      rw [ho j c]
      exact st.sl j hj
  · rw [getS_set hi] at hj
    by_cases c : j = i
    · rw [if_pos c] at hj; exact absurd hj (slr_ne h)
    · rw [if_neg c] at hj ⊢; exact st.em j hj
  · by_cases c : j = i <;> by_cases d : k = i
    · rw [c, d]
    · rw [if_pos c] at hj; rw [if_neg d] at hk; exact absurd hk ((hB a hj).2.2 k d)
    · rw [if_neg c] at hj; rw [if_pos d] at hk; exact absurd hj ((hB a hk).2.2 j c)
    · rw [if_neg c] at hj; rw [if_neg d] at hk; exact st.dj j k a hj hk
  · by_cases c : j = i
    · rw [if_pos c] at hj; exact ⟨(hB a hj).1, (hB a hj).2.1⟩
    · rw [if_neg c] at hj; exact st.fr j a hj
/-- a slot forgotten -/
theorem StR.clear (st : StR K Tl Z F δ σ H ow) (hi : i < δ.length) (hl : σ'.length = σ.length) (ho : ∀ j, j ≠ i → σ'[j]? = σ[j]?) : StR K Tl Z F (δ.set i .emp) σ' H (fun j => if j = i then [] else ow j) := by
  refine ⟨st.z, st.f, fun j hj => ?_, fun j hj => ?_, fun j k a hj hk => ?_, fun j a hj => ?_, by rw [List.length_set, hl, st.ln], st.tb, st.nz, st.nf⟩
  · rw [getS_set hi] at hj ⊢
    by_cases c : j = i
    · rw [if_pos c] at hj; exact absurd rfl hj
    · simp only [if_neg c] at hj ⊢
      rw [ho j c]
      exact st.sl j hj
  · rw [getS_set hi] at hj
    by_cases c : j = i
    · rw [if_pos c]
    · rw [if_neg c] at hj ⊢; exact st.em j hj
  · by_cases c : j = i <;> by_cases d : k = i
    · rw [c, d]
    · rw [if_pos c] at hj; cases hj
    · rw [if_pos d] at hk; cases hk
    · rw [if_neg c] at hj; rw [if_neg d] at hk; exact st.dj j k a hj hk
  · by_cases c : j = i
    · rw [if_pos c] at hj; cases hj
    · rw [if_neg c] at hj; exact st.fr j a hj
/-- frozen cells -/
def mixH (Z G : Hp) (B : List Addr) : Hp := fun a => if a ∈ B then G a else Z a
theorem mix_same (hB : ∀ a ∈ B, Z a = none) : Same Z (mixH Z G B) := fun a o e => by
  unfold mixH
  rw [if_neg (fun m => by rw [hB a m] at e; cases e)]; exact e
theorem mix_in {a : Addr} (m : a ∈ B) : mixH Z G B a = G a := if_pos m
theorem mix_out {a : Addr} (m : a ∉ B) : mixH Z G B a = Z a := if_neg m
theorem rows_frz (hB : ∀ a ∈ B, Z a = none) : ∀ {as : List Addr} {dss : List (List D)}, RowsR K Z G as dss → (∀ a ∈ as, a ∈ B) → RpL K (mixH Z G B) (as.map V.ref) (dss.map PyData.list)
  | [], [], _, _ => .nil
  | a :: as, ds :: dss, ⟨⟨vs, e, r⟩, t⟩, hm => .cons (.lst (by rw [mix_in (hm a List.mem_cons_self)]; exact e) (r.mono (mix_same hB))) (rows_frz hB t fun b hb => hm b (List.mem_cons_of_mem _ hb))
  | [], _ :: _, h, _ => h.elim
  | _ :: _, [], h, _ => h.elim
theorem frz_rel {d : D} (h : SlR K Z G s v B) (hB : ∀ a ∈ B, Z a = none) (e : frz s = some d) : Rp K (mixH Z G B) v d := by
  unfold frz at e
  split at e
  · cases e
    exact h.1.mono (mix_same hB)
  · cases e
    obtain ⟨a, vs, e1, e2, r, e3⟩ := h
    subst e1
    exact .lst (by rw [mix_in (by rw [e3]; simp)]; exact e2) (r.mono (mix_same hB))
  · cases e
    obtain ⟨a, as, e1, e2, r, e3, n⟩ := h
    subst e1
    exact .lst (by rw [mix_in (by rw [e3]; simp)]; exact e2) (rows_frz hB r fun b hb => by rw [e3]; simp [hb])
  · cases e
theorem mix_tbl (st : StR K Tl Z F δ σ H ow) (hG : ∀ a ∈ B, ∃ o, G a = some o ∧ isOwn o = true) : ∀ a ps, mixH Z G B a ≠ some (.tbl ps) := fun a ps => by
  by_cases m : a ∈ B
  · rw [mix_in m]
    obtain ⟨o, e, ho⟩ := hG a m
    rw [e]
    exact fun z => isOwn_ne ho ps (Option.some.inj z)
  · rw [mix_out m]; exact st.nz a ps
/-- a value for good -/
theorem settle_post {q : Bool} {r : RV} {post : D → Sts → Prop} {Z0 F0 : Hp} {H2 : Hp} (hp : PostE K Tl Z F δ σ H r q v H2) (h : RP K Tl Cv W Z0 F0 σ (settle r δ) post) : ∃ d δ', post d δ' ∧ PostE K Tl Z F δ' σ H (.dat d) q v H2 := by
  obtain ⟨Z1, F1, ow1, g1, f1, st1, r1, s1⟩ := hp
  cases r with
  | dat d => exact ⟨d, δ, h, Z1, F1, ow1, g1, f1, st1, r1, s1⟩
  | own s =>
    obtain ⟨d, e, hd⟩ := h.opt
    obtain ⟨B, hs, hB⟩ := r1
    have hZ : ∀ a ∈ B, Z1 a = none := fun a m => (hB a m).1
    have hn : ∀ i a, a ∈ ow1 i → a ∉ B := fun i a m b => by
      obtain ⟨o, e, _⟩ := hs.mem a b
      rw [(st1.fr i a m).2] at e; cases e
    refine ⟨d, δ, hd, mixH Z1 F1 B, F1, ow1, g1.trans (Same.refl _) ⟨mix_same hZ, fun a h1 h2 => ?_⟩, f1, st1.addZ (mix_same hZ) (fun a o e => ?_) (fun i a m => ?_) (mix_tbl st1 fun a m => hs.mem a m), frz_rel hs hZ e, s1⟩
    · rw [mix_out (fun m => h2 (hB a m).2)]; exact h1
    · by_cases m : a ∈ B
      · rw [mix_in m] at e; exact st1.f _ _ e
      · rw [mix_out m] at e; exact st1.z _ _ e
    · rw [mix_out (hn i a m)]; exact (st1.fr i a m).1
  | loc i =>
    have h : RP K Tl Cv W Z0 F0 σ (match getS δ i with
      | .dat d => .ok d δ
      | s => match frz s with
        | some d => .ok d (δ.set i (.dat d))
        | none => .stuck) post := h
    by_cases c : getS δ i = .emp
    · rw [c] at h; exact h.elim
    · obtain ⟨u, eu, hs⟩ := st1.sl i c
      have r1' : σ[i]? = some (some v) := r1
      rw [r1'] at eu
      cases eu
      have hi := slot_ne c
      have fin : ∀ d, frz (getS δ i) = some d → post d (δ.set i (.dat d)) → ∃ d δ', post d δ' ∧ PostE K Tl Z F δ' σ H (.dat d) q v H2 := fun d e hd => by
        have hZ : ∀ a ∈ ow1 i, Z1 a = none := fun a m => (st1.fr i a m).1
        have cl := st1.clear (σ' := σ) hi rfl fun _ _ => rfl
        have az := cl.addZ (Z' := mixH Z1 H2 (ow1 i)) (mix_same hZ) (fun a o e => by
          by_cases m : a ∈ ow1 i
          · rw [mix_in m] at e; exact e
          · rw [mix_out m] at e; exact st1.z _ _ e) (fun j a m => by
          by_cases cj : j = i
          · rw [if_pos cj] at m; cases m
          · rw [if_neg cj] at m
            rw [mix_out (fun m' => cj (st1.dj j i a m m'))]
            exact (st1.fr j a m).1) (mix_tbl st1 fun a m => hs.mem a m)
        have rd := frz_rel hs hZ e
        have pu := az.put (i := i) (s := .dat d) (B := []) (σ' := σ) (v := v) (by rw [List.length_set]; exact hi) rfl r1' (fun _ _ => rfl) ⟨rd, rfl⟩ (fun a m => by cases m)
        rw [List.set_set] at pu
        refine ⟨d, _, hd, _, F1, _, g1.trans f1 ⟨mix_same hZ, fun a h1 h2 => ?_⟩, f1, pu, rd, s1⟩
        rw [mix_out (fun m => h2 (st1.fr i a m).2)]; exact h1
      split at h
      · rename_i d e
        rw [e] at hs
        exact ⟨d, δ, h, Z1, F1, ow1, g1, f1, st1, hs.1, s1⟩
      · split at h
        · rename_i d e
          exact fin d e h
        · exact h.elim
  | inn ds => exact h.elim
end
/-! ### lists of values -/
def RvL (K : PySem.W.Frag) (F0 Z F H : Hp) (σ : L2.St) : List RV → List V → Prop
  | [], [] => True
  | r :: rs, v :: vs => RvR K F0 Z F H σ r v ∧ RvL K F0 Z F H σ rs vs
  | _, _ => False
def PostL (K : PySem.W.Frag) (Tl : List (Addr × Str)) (Z F : Hp) (δ' : Sts) (σ : L2.St) (H : Hp) (rs : List RV) (q : Bool) (vs : List V) (H' : Hp) : Prop :=
  ∃ Z' F' ow', Gr Z F Z' ∧ Same F F' ∧ StR K Tl Z' F' δ' σ H' ow' ∧ RvL K F Z' F' H' σ rs vs ∧ (q = true → Same H H')
def tL (K : PySem.W.Frag) (Tl : List (Addr × Str)) (Cv : Str → Value) (W : WX) {α : Type} (f : α → List RV) (ev : M α) (q : Bool) : TA := fun σ H Q => ∃ Z F δ ow, StR K Tl Z F δ σ H ow ∧ RP K Tl Cv W Z F σ (ev δ) fun a δ' => ∀ vs H', PostL K Tl Z F δ' σ H (f a) q vs H' → Q vs H'
def dats (ds : List D) : List RV := ds.map RV.dat
section
variable {K : PySem.W.Frag} {Tl : List (Addr × Str)} {Cv : Str → Value} {W : WX} {F0 F1 Z F Z' F' H H' : Hp} {σ : L2.St}
theorem RvR.base (h : Same F0 F1) : ∀ {r : RV} {v : V}, RvR K F1 Z F H σ r v → RvR K F0 Z F H σ r v
  | .dat d, v, r => r
  | .own s, v, ⟨B, r, n⟩ => ⟨B, r, fun a m => ⟨(n a m).1, h.free (n a m).2⟩⟩
  | .loc i, v, r => r
  | .inn ds, v, r => r
theorem RvL.base (h : Same F0 F1) : ∀ {rs : List RV} {vs : List V}, RvL K F1 Z F H σ rs vs → RvL K F0 Z F H σ rs vs
  | [], [], _ => trivial
  | _ :: _, _ :: _, ⟨a, b⟩ => ⟨a.base h, RvL.base h b⟩
  | [], _ :: _, r => r.elim
  | _ :: _, [], r => r.elim
theorem RvL.rp : ∀ {ds : List D} {vs : List V}, RvL K F0 Z F H σ (dats ds) vs → RpL K Z vs ds
  | [], [], _ => .nil
  | _ :: _, _ :: _, ⟨a, b⟩ => .cons a (RvL.rp b)
  | [], _ :: _, r => r.elim
  | _ :: _, [], r => r.elim
theorem RvL.len : ∀ {rs : List RV} {vs : List V}, RvL K F0 Z F H σ rs vs → vs.length = rs.length
  | [], [], _ => rfl
  | _ :: _, _ :: _, ⟨_, b⟩ => by rw [List.length_cons, List.length_cons, RvL.len b]
  | [], _ :: _, r => r.elim
  | _ :: _, [], r => r.elim
end
section
variable {S : Sx} {Tl : List (Addr × Str)} {Cv : Str → Value} {n : Nat} {sc : Scope} {W : WX} {X : Cx}
variable {a : Expr} {as : List Expr} {ea : M RV} {qa qs : Bool} {pos : Pos}
theorem pa_nilL {α : Type} {f : α → List RV} {x : α} (h : f x = []) : PA X [] (tL X.K Tl Cv W f (kConst x) true) :=
  PA.imp pa_nil fun σ H Q ⟨Z, F, δ, ow, st, hq⟩ => hq [] H ⟨Z, F, ow, Gr.refl _ _, Same.refl _, st, by rw [h]; trivial, fun _ => Same.refl _⟩
theorem pa_kDs {es : M (List D)} (oa : okE a = true) (ha : PE X a (tE X.K Tl Cv W ea qa)) (hs : PA X as (tL X.K Tl Cv W dats es qs)) : PA X (a :: as) (tL X.K Tl Cv W dats (kDs ea es) (qa && qs)) := by
  refine PA.imp (pa_cons ha hs (ok_star oa)) fun σ H Q ⟨Z, F, δ, ow, st, h⟩ => ⟨Z, F, δ, ow, st, h.bind.imp fun r δ1 h1 x H1 hp => ?_⟩
  obtain ⟨d, δ', h2, Z1, F1, ow1, g1, f1, st1, r1, s1⟩ := settle_post hp h1.bind
  refine ⟨Z1, F1, δ', ow1, st1, (h2.bind.weak g1 f1).imp fun ds δ2 h3 vs H2 ⟨Z2, F2, ow2, g2, f2, st2, r2, s2⟩ => h3 (x :: vs) H2 ⟨Z2, F2, ow2, g1.trans f1 g2, f1.trans f2, st2, ⟨Rp.mono g2.s r1, r2.base f1⟩, fun hq => ?_⟩⟩
  rw [Bool.and_eq_true] at hq
  exact (s1 hq.1).trans (s2 hq.2)
theorem pa_kVs {es : M (List RV)} (oa : okE a = true) (ha : PE X a (tE X.K Tl Cv W ea qa)) (hs : PA X as (tL X.K Tl Cv W id es qs)) : PA X (a :: as) (tL X.K Tl Cv W id (kVs qs ea es) (qa && qs)) := by
  refine PA.imp (pa_cons ha hs (ok_star oa)) fun σ H Q ⟨Z, F, δ, ow, st, h⟩ => ⟨Z, F, δ, ow, st, h.bind.imp fun r δ1 h1 x H1 ⟨Z1, F1, ow1, g1, f1, st1, r1, s1⟩ => ?_⟩
  by_cases hi : innOk r qs = true
  · rw [if_pos hi] at h1
    refine ⟨Z1, F1, δ1, ow1, st1, (h1.bind.weak g1 f1).imp fun rs δ2 h3 vs H2 ⟨Z2, F2, ow2, g2, f2, st2, r2, s2⟩ => h3 (x :: vs) H2 ⟨Z2, F2, ow2, g1.trans f1 g2, f1.trans f2, st2, ⟨r1.mono g2 f2 fun e => s2 ?_, r2.base f1⟩, fun hq => ?_⟩⟩
    · cases r <;> first | exact hi | cases e
    · rw [Bool.and_eq_true] at hq
      exact (s1 hq.1).trans (s2 hq.2)
  · rw [if_neg hi] at h1
    exact h1.elim
theorem pa_kRs {es : M (List RV)} (oa : okE a = true) (ha : PE X a (tE X.K Tl Cv W ea qa)) (hs : PA X as (tL X.K Tl Cv W id es qs)) : PA X (a :: as) (tL X.K Tl Cv W id (kRs ea es) false) := by
  refine PA.imp (pa_cons ha hs (ok_star oa)) fun σ H Q ⟨Z, F, δ, ow, st, h⟩ => ⟨Z, F, δ, ow, st, h.bind.imp fun r δ1 h1 x H1 hp => ?_⟩
  have fin : RP X.K Tl Cv W Z F σ ((settle r δ1).bind fun d δ => (es δ).bind fun rs δ => .ok (.dat d :: rs) δ) (fun rs δ' => ∀ vs H', PostL X.K Tl Z F δ' σ H (id rs) false vs H' → Q vs H') → tL X.K Tl Cv W id es qs σ H1 fun xs H2 => Q (x :: xs) H2 := fun h1 => by
    obtain ⟨d, δ', h2, Z1, F1, ow1, g1, f1, st1, r1, s1⟩ := settle_post hp h1.bind
    exact ⟨Z1, F1, δ', ow1, st1, (h2.bind.weak g1 f1).imp fun rs δ2 h3 vs H2 ⟨Z2, F2, ow2, g2, f2, st2, r2, s2⟩ => h3 (x :: vs) H2 ⟨Z2, F2, ow2, g1.trans f1 g2, f1.trans f2, st2, ⟨Rp.mono g2.s r1, r2.base f1⟩, fun hq => by cases hq⟩⟩
  cases r with
  | loc i =>
    obtain ⟨Z1, F1, ow1, g1, f1, st1, r1, s1⟩ := hp
    have h1 : RP X.K Tl Cv W Z F σ ((es δ1).bind fun rs δ => .ok (.loc i :: rs) δ) _ := h1
    exact ⟨Z1, F1, δ1, ow1, st1, (h1.bind.weak g1 f1).imp fun rs δ2 h3 vs H2 ⟨Z2, F2, ow2, g2, f2, st2, r2, s2⟩ => h3 (x :: vs) H2 ⟨Z2, F2, ow2, g1.trans f1 g2, f1.trans f2, st2, ⟨r1, r2.base f1⟩, fun hq => by cases hq⟩⟩
  | dat d => exact fin h1
  | own s => exact fin h1
  | inn ds => exact fin h1
/-! ### displays -/
theorem rpl_len {K : PySem.W.Frag} {F0 Z F H : Hp} {σ : L2.St} {ds : List D} {vs : List V} (h : RvL K F0 Z F H σ (dats ds) vs) : vs.length = ds.length := h.rp.len
theorem pe_kTup {k} {es : M (List D)} (hs : PA X as (tL X.K Tl Cv W dats es qs)) (hl : ∀ δ ds δ', es δ = .ok ds δ' → ds.length ≤ sizeLine) : PE X (.Tuple as k pos) (tE X.K Tl Cv W (fun δ => (es δ).bind fun ds δ => .ok (.dat (.tuple ds)) δ) qs) := by
  refine PE.imp (pe_tup hs) fun σ H Q ⟨Z, F, δ, ow, st, h⟩ => ⟨Z, F, δ, ow, st, ?_⟩
  have hl := hl δ
  change RP X.K Tl Cv W Z F σ ((es δ).bind _) _ at h
  revert h hl
  cases es δ with
  | ok ds δ1 =>
    intro hl h vs H1 ⟨Z1, F1, ow1, g1, f1, st1, r1, s1⟩
    have rp := r1.rp
    refine ⟨by rw [rp.len]; exact hl _ _ rfl, fun p hp => h (.ref p) _ (new_post (r := .dat (.tuple ds)) st1 g1 f1 s1 (.inr ⟨p, _, hp, rfl, (fun ps e => by cases e), .tup upd_same (rp.mono (same_upd (st1.new_not hp).2.1))⟩))⟩
  | exc c δ1 => exact fun _ h => h
  | stuck => exact fun _ h => h
theorem pe_kLst {es : M (List D)} (hs : PA X as (tL X.K Tl Cv W dats es qs)) (hl : ∀ δ ds δ', es δ = .ok ds δ' → ds.length ≤ sizeLine) : PE X (.List as pos) (tE X.K Tl Cv W (fun δ => (es δ).bind fun ds δ => .ok (.own (.lst ds)) δ) qs) := by
  refine PE.imp (pe_lst hs) fun σ H Q ⟨Z, F, δ, ow, st, h⟩ => ⟨Z, F, δ, ow, st, ?_⟩
  have hl := hl δ
  change RP X.K Tl Cv W Z F σ ((es δ).bind _) _ at h
  revert h hl
  cases es δ with
  | ok ds δ1 =>
    intro hl h vs H1 ⟨Z1, F1, ow1, g1, f1, st1, r1, s1⟩
    have rp := r1.rp
    exact ⟨by rw [rp.len]; exact hl _ _ rfl, fun p hp => h (.ref p) _ (new_post (r := .own (.lst ds)) st1 g1 f1 s1 ⟨p, vs, hp, rfl, rfl, rp⟩)⟩
  | exc c δ1 => exact fun _ h => h
  | stuck => exact fun _ h => h
/-! ### slices -/
def tOr' (K : PySem.W.Frag) (Tl : List (Addr × Str)) (Cv : Str → Value) (W : WX) (ev : M (Option Int)) : TO := fun σ H Q => ∃ Z F δ ow, StR K Tl Z F δ σ H ow ∧ RP K Tl Cv W Z F σ (ev δ) fun o δ' => ∀ H', PostS K Tl Z F δ' σ H' → Q o H'
theorem PO.imp {e : Option Expr} {t t' : TO} (h : PO X e t) (hi : ∀ σ H Q, t' σ H Q → t σ H Q) : PO X e t' := ⟨fun pins s σ H Q I hw => h.run pins s σ H Q I (hi σ H Q hw)⟩
theorem po_kNone : PO X none (tOr' X.K Tl Cv W (kConst none)) := PO.imp po_none fun σ H Q ⟨Z, F, δ, ow, st, h⟩ => h H ⟨Z, ow, Gr.refl _ _, st⟩
theorem po_kO (ha : PE X a (tE X.K Tl Cv W ea qa)) : PO X (some a) (tOr' X.K Tl Cv W (kO ea)) :=
  PO.imp (po_some ha) fun σ H Q ⟨Z, F, δ, ow, st, h⟩ => ⟨Z, F, δ, ow, st, h.bind.imp fun r δ1 h1 x H1 ⟨Z1, F1, ow1, g1, f1, st1, r1, s1⟩ => by
    split at h1
    · exact ⟨_, rp_int r1, h1 H1 ⟨Z1, ow1, g1, st1.drop f1⟩⟩
    · exact h1.elim⟩
theorem pe_kSlice {lo hi : Option Expr} {el eh : M (Option Int)} {p2 : Pos} (ha : PE X a (tE X.K Tl Cv W ea qa)) (hl : PO X lo (tOr' X.K Tl Cv W el)) (hh : PO X hi (tOr' X.K Tl Cv W eh)) : PE X (.Subscript a (.Slice lo hi none p2) pos) (tE X.K Tl Cv W (kSlice ea el eh) false) := by
  refine PE.imp (pe_slice sliceV_ok ha hl hh) fun σ H Q ⟨Z, F, δ, ow, st, h⟩ => ⟨Z, F, δ, ow, st, h.bind.imp fun r δ1 h1 x H1 ⟨Z1, F1, ow1, g1, f1, st1, r1, s1⟩ => ?_⟩
  refine ⟨Z1, F1, δ1, ow1, st1, (h1.bind.weak g1 f1).imp fun l δ2 h2 H2 ⟨Z2, ow2, g2, st2⟩ => ?_⟩
  have g12 := g1.trans f1 g2
  refine ⟨Z2, F1, δ2, ow2, st2, (h2.bind.weak g12 f1).imp fun u δ3 h3 H3 ⟨Z3, ow3, g3, st3⟩ => ?_⟩
  by_cases hi : innOk r false = true
  · rw [if_pos hi] at h3
    obtain ⟨w, e, hp⟩ := h3.opt
    have n1 : view r δ3 ≠ .emp := fun z => by rw [z] at e; cases e
    have r3 := (r1.mono (H' := H2) g2 (Same.refl _) (fun e => by cases r <;> first | exact absurd e Bool.false_ne_true | exact absurd hi Bool.false_ne_true)).mono (H' := H3) g3 (Same.refl _) (fun e => by cases r <;> first | exact absurd e Bool.false_ne_true | exact absurd hi Bool.false_ne_true)
    exact ⟨Z3, _, w, st3.z, r3.view st3 n1, e, fun v H' hn => hp v H' (new_post st3 (g12.trans f1 g3) f1 (fun e => by cases e) hn)⟩
  · rw [if_neg hi] at h3
    exact h3.elim
/-! ### built-ins -/
theorem biV_ne {b : Bi} {xs : List Slot} {w : RV} (h : biV b xs = some w) : ∀ x ∈ xs, x ≠ .emp := by
  have one : ∀ {f : Slot → Option RV}, f .emp = none → bi1 f xs = some w → ∀ x ∈ xs, x ≠ .emp := fun {f} h0 e x m => by
    obtain ⟨y, e1, e2⟩ := bi1_of e
    subst e1
    cases List.mem_singleton.mp m
    rintro rfl
    rw [h0] at e2; cases e2
  have i1 : ∀ {g : Int → Int}, int1 g xs = some w → ∀ x ∈ xs, x ≠ .emp := fun {g} e x m => by
    obtain ⟨i, e1, e2⟩ := bi_oneI e
    subst e1
    cases List.mem_singleton.mp m
    exact fun z => by cases z
  have i2 : ∀ {g : Int → Int → Int}, int2 g xs = some w → ∀ x ∈ xs, x ≠ .emp := fun {g} e x m => by
    obtain ⟨i, j, e1, e2⟩ := bi_two e
    subst e1
    rcases List.mem_cons.mp m with rfl | m
    · exact fun z => by cases z
    · cases List.mem_singleton.mp m
      exact fun z => by cases z
  have i3 : ∀ {g : Bool → RV}, boo1 g xs = some w → ∀ x ∈ xs, x ≠ .emp := fun {g} e x m => by
    obtain ⟨i, e1, e2⟩ := bi_boo e
    subst e1
    cases List.mem_singleton.mp m
    exact fun z => by cases z
  cases b <;> first | exact one rfl h | exact i1 h | exact i2 h | exact i3 h
theorem RvL.vi {K : PySem.W.Frag} {F0 Z F H : Hp} {σ : L2.St} {δ : Sts} {ow : Nat → List Addr} (st : StR K Tl Z F δ σ H ow) : ∀ {rs : List RV} {vs : List V}, RvL K F0 Z F H σ rs vs → (∀ x ∈ rs.map fun r => view r δ, x ≠ .emp) → ViL K Z H (rs.map fun r => view r δ) vs
  | [], [], _, _ => trivial
  | r :: rs, v :: vs, ⟨a, b⟩, h => ⟨a.view st (h _ List.mem_cons_self), RvL.vi st b fun x m => h x (List.mem_cons_of_mem _ m)⟩
  | [], _ :: _, r, _ => r.elim
  | _ :: _, [], r, _ => r.elim
theorem bi_reads {K : PySem.W.Frag} {b : Bi} {es : M (List RV)} {σ : L2.St} {H : Hp} {Q : VK} (h : tE K Tl Cv W (kBi b es) qs σ H Q) : tL K Tl Cv W id es qs σ H fun vs H1 => rBiV K b vs H1 Q := by
  obtain ⟨Z, F, δ, ow, st, h⟩ := h
  refine ⟨Z, F, δ, ow, st, h.bind.imp fun rs δ1 h1 vs H1 ⟨Z1, F1, ow1, g1, f1, st1, r1, s1⟩ => ?_⟩
  obtain ⟨w, e, hp⟩ := h1.opt
  exact ⟨Z1, _, w, st1.z, r1.vi st1 (biV_ne e), e, fun v H' hn => hp v H' (new_post st1 g1 f1 s1 hn)⟩
end
end Ev

set_option Elab.async false
set_option linter.all false
set_option maxRecDepth 100000
set_option maxHeartbeats 4000000
/-! Calls of defs. -/
namespace Ev
open PySem PySem.Spec PyProof.Rows L2
/-! ### arguments, back again -/
def posOf : List RV → Nat → Nat
  | [], _ => 0
  | .loc i :: r, j => if i = j then 0 else posOf r j + 1
  | _ :: r, j => posOf r j + 1
theorem pos_at : ∀ {rs : List RV} {j : Nat}, j ∈ locsOf rs → rs[posOf rs j]? = some (.loc j)
  | [], j, h => by cases h
  | .loc i :: r, j, h => by
    by_cases c : i = j
    · subst c; simp [posOf]
    · have h' : j ∈ locsOf r := by
        rcases List.mem_cons.mp h with q | q
        · exact absurd q.symm c
        · exact q
      simp only [posOf, if_neg c, List.getElem?_cons_succ]
      exact pos_at h'
  | .dat d :: r, j, h => by simp only [posOf, List.getElem?_cons_succ]; exact pos_at (rs := r) h
  | .own d :: r, j, h => by simp only [posOf, List.getElem?_cons_succ]; exact pos_at (rs := r) h
  | .inn d :: r, j, h => by simp only [posOf, List.getElem?_cons_succ]; exact pos_at (rs := r) h
theorem loc_mem : ∀ {rs : List RV} {k j : Nat}, rs[k]? = some (.loc j) → j ∈ locsOf rs
  | [], k, j, h => by simp at h
  | .loc i :: r, 0, j, h => by simp at h; subst h; exact List.mem_cons_self
  | .loc i :: r, k + 1, j, h => List.mem_cons_of_mem _ (loc_mem (rs := r) (by simpa using h))
  | .dat d :: r, 0, j, h => by simp at h
  | .own d :: r, 0, j, h => by simp at h
  | .inn d :: r, 0, j, h => by simp at h
  | .dat d :: r, k + 1, j, h => loc_mem (rs := r) (by simpa using h)
  | .own d :: r, k + 1, j, h => loc_mem (rs := r) (by simpa using h)
  | .inn d :: r, k + 1, j, h => loc_mem (rs := r) (by simpa using h)
theorem loc_uniq : ∀ {rs : List RV} {k l j : Nat}, nodupN (locsOf rs) = true → rs[k]? = some (.loc j) → rs[l]? = some (.loc j) → k = l
  | [], k, l, j, _, h, _ => by simp at h
  | .loc i :: r, 0, 0, j, _, _, _ => rfl
  | .loc i :: r, 0, l + 1, j, n, h, g => by
    simp at h; subst h
    have := loc_mem (rs := r) (k := l) (by simpa using g)
    simp only [locsOf, nodupN, Bool.and_eq_true, Bool.not_eq_true', List.contains_eq_mem, decide_eq_false_iff_not] at n
    exact absurd this n.1
  | .loc i :: r, k + 1, 0, j, n, h, g => by
    simp at g; subst g
    have := loc_mem (rs := r) (k := k) (by simpa using h)
    simp only [locsOf, nodupN, Bool.and_eq_true, Bool.not_eq_true', List.contains_eq_mem, decide_eq_false_iff_not] at n
    exact absurd this n.1
  | .loc i :: r, k + 1, l + 1, j, n, h, g => by
    simp only [locsOf, nodupN, Bool.and_eq_true] at n
    rw [loc_uniq (rs := r) (k := k) (l := l) n.2 (by simpa using h) (by simpa using g)]
  | .dat d :: r, 0, l, j, n, h, g => by simp at h
  | .own d :: r, 0, l, j, n, h, g => by simp at h
  | .inn d :: r, 0, l, j, n, h, g => by simp at h
  | .dat d :: r, k + 1, 0, j, n, h, g => by simp at g
  | .own d :: r, k + 1, 0, j, n, h, g => by simp at g
  | .inn d :: r, k + 1, 0, j, n, h, g => by simp at g
  | .dat d :: r, k + 1, l + 1, j, n, h, g => by rw [loc_uniq (rs := r) (k := k) (l := l) n (by simpa using h) (by simpa using g)]
  | .own d :: r, k + 1, l + 1, j, n, h, g => by rw [loc_uniq (rs := r) (k := k) (l := l) n (by simpa using h) (by simpa using g)]
  | .inn d :: r, k + 1, l + 1, j, n, h, g => by rw [loc_uniq (rs := r) (k := k) (l := l) n (by simpa using h) (by simpa using g)]
/-- what the arguments are -/
theorem args_at {K : PySem.W.Frag} {F0 Z F H : Hp} {σ : L2.St} {δ : Sts} : ∀ {rs : List RV} {as : List Slot} {vs : List V}, argsOf rs δ = some as → RvL K F0 Z F H σ rs vs →
    as.length = vs.length ∧ rs.length = vs.length ∧ ∀ k, k < vs.length → ∃ v, vs[k]? = some v ∧ ((∃ d, rs[k]? = some (.dat d) ∧ getS as k = .dat d ∧ Rp K Z v d) ∨ ∃ i, rs[k]? = some (.loc i) ∧ getS as k = getS δ i ∧ σ[i]? = some (some v))
  | [], as, [], e, _ => by
    have : as = [] := (Option.some.inj e).symm
    subst this
    exact ⟨rfl, rfl, fun k h => absurd h (Nat.not_lt_zero _)⟩
  | .dat d :: rs, as, v :: vs, e, ⟨r, t⟩ => by
    obtain ⟨as', e1, e2⟩ := Option.map_eq_some_iff.mp (show (argsOf rs δ).map (Slot.dat d :: ·) = some as from e)
    subst e2
    obtain ⟨h1, h2, h3⟩ := args_at e1 t
    refine ⟨by simp [h1], by simp [h2], fun k hk => ?_⟩
    cases k with
    | zero => exact ⟨v, rfl, .inl ⟨d, rfl, rfl, r⟩⟩
    | succ k => simpa [getS] using h3 k (by simpa using hk)
  | .loc i :: rs, as, v :: vs, e, ⟨r, t⟩ => by
    obtain ⟨as', e1, e2⟩ := Option.map_eq_some_iff.mp (show (argsOf rs δ).map (getS δ i :: ·) = some as from e)
    subst e2
    obtain ⟨h1, h2, h3⟩ := args_at e1 t
    refine ⟨by simp [h1], by simp [h2], fun k hk => ?_⟩
    cases k with
    | zero => exact ⟨v, rfl, .inr ⟨i, rfl, rfl, r⟩⟩
    | succ k => simpa [getS] using h3 k (by simpa using hk)
  | .own _ :: rs, as, v :: vs, e, _ => by cases e
  | .inn _ :: rs, as, v :: vs, e, _ => by cases e
  | [], _, _ :: _, _, r => r.elim
  | _ :: _, _, [], _, r => r.elim
theorem back_at : ∀ {rs : List RV} {back : List Slot} {δ δ' : Sts}, giveBack rs back δ = some δ' → nodupN (locsOf rs) = true → (∀ i ∈ locsOf rs, i < δ.length) →
    δ'.length = δ.length ∧ (∀ j, j ∉ locsOf rs → getS δ' j = getS δ j) ∧ ∀ k j, rs[k]? = some (.loc j) → getS δ' j = getS back k
  | [], [], δ, δ', e, _, _ => by
    have : δ' = δ := (Option.some.inj e).symm
    subst this
    exact ⟨rfl, fun _ _ => rfl, fun k j h => by simp at h⟩
  | [], _ :: _, δ, δ', e, _, _ => by cases e
  | .dat d :: rs, [], δ, δ', e, _, _ => by cases e
  | .dat d :: rs, b :: bs, δ, δ', e, n, hl => by
    obtain ⟨h1, h2, h3⟩ := back_at (rs := rs) (back := bs) (δ := δ) e n hl
    refine ⟨h1, h2, fun k j h => ?_⟩
    cases k with
    | zero => simp at h
    | succ k => simpa [getS] using h3 k j (by simpa using h)
  | .loc i :: rs, [], δ, δ', e, _, _ => by cases e
  | .loc i :: rs, b :: bs, δ, δ', e, n, hl => by
    have hi : i < δ.length := hl i List.mem_cons_self
    have n' := n
    simp only [locsOf, nodupN, Bool.and_eq_true, Bool.not_eq_true', List.contains_eq_mem, decide_eq_false_iff_not] at n
    obtain ⟨h1, h2, h3⟩ := back_at (rs := rs) (back := bs) (δ := δ.set i b) e n.2 fun j hj => by rw [List.length_set]; exact hl j (List.mem_cons_of_mem _ hj)
    refine ⟨by rw [h1, List.length_set], fun j hj => ?_, fun k j h => ?_⟩
    · rw [h2 j fun m => hj (List.mem_cons_of_mem _ m), getS_set hi, if_neg (fun z : j = i => hj (z ▸ List.mem_cons_self))]
    · cases k with
      | zero =>
        have : i = j := by simpa using h
        subst this
        rw [h2 i n.1, getS_set hi, if_pos rfl]; rfl
      | succ k => simpa [getS] using h3 k j (by simpa using h)
  | .own _ :: _, _, δ, δ', e, _, _ => by cases e
  | .inn _ :: _, _, δ, δ', e, _, _ => by cases e
section
variable {K : PySem.W.Frag} {Tl : List (Addr × Str)} {Cv : Str → Value} {W : WX} {F0 Z F H H' : Hp} {δ : Sts} {σ : L2.St} {ow : Nat → List Addr} {rs : List RV} {vs : List V} {as : List Slot}
open Classical in
/-- the frame of a callee: the caller's frame and what it does not lend -/
noncomputable def lendF (H F : Hp) (ow : Nat → List Addr) (rs : List RV) : Hp := fun a => if ∃ i, i ∉ locsOf rs ∧ a ∈ ow i then H a else F a
def lendO (ow : Nat → List Addr) (rs : List RV) : Nat → List Addr := fun k => match rs[k]? with
  | some (.loc i) => ow i
  | _ => []
theorem lend_pos {a : Addr} {i : Nat} (h : i ∉ locsOf rs) (m : a ∈ ow i) : lendF H F ow rs a = H a := if_pos ⟨i, h, m⟩
theorem lend_same (st : StR K Tl Z F δ σ H ow) : Same F (lendF H F ow rs) := fun a o e => by
  unfold lendF
  split
  · exact st.f _ _ e
  · exact e
theorem lendO_mem {a : Addr} {k : Nat} (h : a ∈ lendO ow rs k) : ∃ i, rs[k]? = some (.loc i) ∧ a ∈ ow i := by
  unfold lendO at h
  split at h
  · exact ⟨_, by assumption, h⟩
  · cases h
theorem call_in (st : StR K Tl Z F δ σ H ow) (r : RvL K F0 Z F H σ rs vs) (e : argsOf rs δ = some as) (n : nodupN (locsOf rs) = true) : StR K Tl Z (lendF H F ow rs) as (vs.map some) H (lendO ow rs) := by
  obtain ⟨l1, l2, at_⟩ := args_at e r
  refine ⟨st.z, fun a o q => ?_, fun k hk => ?_, fun k hk => ?_, fun k l a hk hl => ?_, fun k a hk => ?_, by rw [l1, List.length_map], st.tb, st.nz, fun a ps q => ?_⟩
  · unfold lendF at q
    split at q
    · exact q
    · exact st.f _ _ q
  · have hlt : k < vs.length := by have := slot_ne hk; omega
    obtain ⟨v, ev, q⟩ := at_ k hlt
    refine ⟨v, by rw [List.getElem?_map, ev]; rfl, ?_⟩
    rcases q with ⟨d, e1, e2, rp⟩ | ⟨i, e1, e2, e3⟩
    · rw [e2]
      unfold lendO
      rw [e1]
      exact ⟨rp, rfl⟩
    · rw [e2] at hk ⊢
      obtain ⟨u, eu, s⟩ := st.sl i hk
      rw [e3] at eu
      cases eu
      unfold lendO
      rw [e1]
      exact s
  · by_cases hlt : k < vs.length
    · obtain ⟨v, ev, q⟩ := at_ k hlt
      unfold lendO
      rcases q with ⟨d, e1, e2, rp⟩ | ⟨i, e1, e2, e3⟩
      · rw [e1]
      · rw [e1]
        rw [e2] at hk
        exact st.em i hk
    · unfold lendO
      rw [List.getElem?_eq_none (by omega)]
  · obtain ⟨i, e1, m1⟩ := lendO_mem hk
    obtain ⟨j, e2, m2⟩ := lendO_mem hl
    have := st.dj i j a m1 m2
    subst this
    exact loc_uniq n e1 e2
  · obtain ⟨i, e1, m1⟩ := lendO_mem hk
    refine ⟨(st.fr i a m1).1, ?_⟩
    unfold lendF
    rw [if_neg]
    · exact (st.fr i a m1).2
    · rintro ⟨j, hj, m2⟩
      have := st.dj i j a m1 m2
      subst this
      exact hj (loc_mem e1)
  · unfold lendF at q
    split at q
    · rename_i h
      obtain ⟨i, _, m⟩ := h
      obtain ⟨o, eo, ho⟩ := st.own m
      rw [eo] at q
      exact isOwn_ne ho ps (Option.some.inj q)
    · exact st.nf a ps q
/-- the frame behind: what the callee made -/
def backF (H' F : Hp) (B : List Addr) : Hp := fun a => if a ∈ B then H' a else F a
def backO (ow owc : Nat → List Addr) (rs : List RV) : Nat → List Addr := fun j => if j ∈ locsOf rs then owc (posOf rs j) else ow j
theorem call_back {Z' Fc' : Hp} {back : Sts} {owc : Nat → List Addr} {B : List Addr} {δ' : Sts} (st : StR K Tl Z F δ σ H ow) (r : RvL K F0 Z F H σ rs vs) (e : argsOf rs δ = some as) (n : nodupN (locsOf rs) = true)
    (g : Gr Z (lendF H F ow rs) Z') (f : Same (lendF H F ow rs) Fc') (sc : StR K Tl Z' Fc' back (vs.map some) H' owc) (hb : giveBack rs back δ = some δ')
    (hB : ∀ a ∈ B, Z' a = none ∧ lendF H F ow rs a = none ∧ ∃ o, Fc' a = some o ∧ isOwn o = true) : Gr Z F Z' ∧ Same F (backF H' F B) ∧ StR K Tl Z' (backF H' F B) δ' σ H' (backO ow owc rs) := by
  obtain ⟨l1, l2, at_⟩ := args_at e r
  have hloc : ∀ {k i : Nat}, rs[k]? = some (.loc i) → ∃ v, vs[k]? = some v ∧ σ[i]? = some (some v) := fun {k i} h => by
    have hlt : k < vs.length := by
      have := (List.getElem?_eq_some_iff.mp h).1
      omega
    obtain ⟨v, ev, q⟩ := at_ k hlt
    rcases q with ⟨d, e1, e2, rp⟩ | ⟨j, e1, e2, e3⟩
    · rw [h] at e1; cases e1
    · rw [h] at e1; cases e1
      exact ⟨v, ev, e3⟩
  obtain ⟨b1, b2, b3⟩ := back_at hb n fun i hi => by
    obtain ⟨v, _, e2⟩ := hloc (pos_at hi)
    rw [st.ln]
    exact (List.getElem?_eq_some_iff.mp e2).1
  have fF : Same F (lendF H F ow rs) := lend_same st
  have keep : ∀ j, j ∉ locsOf rs → ∀ a ∈ ow j, ∀ o, H a = some o → Fc' a = some o := fun j hj a m o ho => f a o (by rw [lend_pos hj m]; exact ho)
  have nB : ∀ j, j ∉ locsOf rs → ∀ a ∈ ow j, a ∉ B := fun j hj a m b => by
    obtain ⟨_, q, _⟩ := hB a b
    rw [lend_pos hj m] at q
    obtain ⟨o, eo, _⟩ := st.own m
    rw [q] at eo; cases eo
  refine ⟨⟨g.s, fun a h1 h2 => g.n a h1 fun z => h2 (fF.free z)⟩, fun a o q => ?_, ⟨sc.z, fun a o q => ?_, fun j hj => ?_, fun j hj => ?_, fun j k a hj hk => ?_, fun j a hj => ?_, by rw [b1, st.ln], sc.tb, sc.nz, fun a ps q => ?_⟩⟩
  · unfold backF
    rw [if_neg]
    · exact q
    · intro m
      obtain ⟨_, z, _⟩ := hB a m
      rw [fF.free z] at q; cases q
  · unfold backF at q
    split at q
    · exact q
    · exact sc.f _ _ (f _ _ (fF _ _ q))
  · by_cases c : j ∈ locsOf rs
    · have hp := pos_at c
      obtain ⟨v, e1, e2⟩ := hloc hp
      rw [b3 _ _ hp] at hj ⊢
      obtain ⟨u, eu, s⟩ := sc.sl _ hj
      rw [List.getElem?_map, e1] at eu
      cases eu
      refine ⟨_, e2, ?_⟩
      unfold backO
      rw [if_pos c]
      exact s
    · rw [b2 j c] at hj ⊢
      obtain ⟨u, eu, s⟩ := st.sl j hj
      refine ⟨u, eu, ?_⟩
      unfold backO
      rw [if_neg c]
      exact s.mono g.s fun a m o ho => sc.f _ _ (keep j c a m o ho)
  · by_cases c : j ∈ locsOf rs
    · unfold backO
      rw [if_pos c]
      rw [b3 _ _ (pos_at c)] at hj
      exact sc.em _ hj
    · unfold backO
      rw [if_neg c]
      rw [b2 j c] at hj
      exact st.em j hj
  · have mixd : ∀ {j k a}, j ∈ locsOf rs → k ∉ locsOf rs → a ∈ owc (posOf rs j) → a ∈ ow k → False := fun {j k a} hj hk m1 m2 => by
      have z := (sc.fr _ a m1).2
      obtain ⟨o, eo, _⟩ := st.own m2
      rw [keep k hk a m2 o eo] at z; cases z
    unfold backO at hj hk
    by_cases c : j ∈ locsOf rs <;> by_cases d : k ∈ locsOf rs
    · rw [if_pos c] at hj; rw [if_pos d] at hk
      have := sc.dj _ _ a hj hk
      have p1 := pos_at c
      have p2 := pos_at d
      rw [this, p2] at p1
      cases p1; rfl
    · rw [if_pos c] at hj; rw [if_neg d] at hk
      exact (mixd c d hj hk).elim
    · rw [if_neg c] at hj; rw [if_pos d] at hk
      exact (mixd d c hk hj).elim
    · rw [if_neg c] at hj; rw [if_neg d] at hk
      exact st.dj _ _ a hj hk
  · unfold backO at hj
    by_cases c : j ∈ locsOf rs
    · rw [if_pos c] at hj
      obtain ⟨z1, z2⟩ := sc.fr _ a hj
      refine ⟨z1, ?_⟩
      unfold backF
      rw [if_neg]
      · exact fF.free (f.free z2)
      · intro m
        obtain ⟨_, _, o, eo, _⟩ := hB a m
        rw [z2] at eo; cases eo
    · rw [if_neg c] at hj
      obtain ⟨o, eo, _⟩ := st.own hj
      refine ⟨g.n a (st.fr j a hj).1 (by rw [lend_pos c hj, eo]; simp), ?_⟩
      unfold backF
      rw [if_neg (nB j c a hj)]
      exact (st.fr j a hj).2
  · unfold backF at q
    split at q
    · rename_i m
      obtain ⟨_, _, o, eo, ho⟩ := hB a m
      rw [sc.f _ _ eo] at q
      exact isOwn_ne ho ps (Option.some.inj q)
    · exact st.nf a ps q
end
section
variable {S : Sx} {Tl : List (Addr × Str)} {Cv : Str → Value} {n : Nat} {sc : Scope} {W : WX} {X : Cx}
variable {a : Expr} {as : List Expr} {ea : M RV} {qa qs : Bool} {pos p : Pos}
theorem call_reads {K : PySem.W.Frag} {T : List (Str × Fn)} {f : Str} {es : M (List RV)} {σ : L2.St} {H : Hp} {Q : VK} (h : tE K Tl Cv W (kCall (evF T n) f es) false σ H Q) :
    tCall (SpF K Tl Cv T n f) [] (fun cls d H => W cls d σ H) (tL K Tl Cv W id es qs) σ H Q := by
  obtain ⟨Z, F, δ, ow, st, h⟩ := h
  refine ⟨Z, F, δ, ow, st, h.bind.imp fun rs δ1 h1 vs H1 ⟨Z1, F1, ow1, g1, f1, st1, r1, s1⟩ => ?_⟩
  show SpF K Tl Cv T n f (vs ++ []) H1 Q _
  rw [List.append_nil]
  unfold callR at h1
  split at h1
  · exact h1.elim
  · rename_i as' ea'
    by_cases hn : nodupN (locsOf rs) = true
    · rw [if_pos hn] at h1
      refine ⟨Z1, _, as', _, call_in st1 r1 ea' hn, ?_⟩
      revert h1
      cases evF T n f as' with
      | ret r back =>
        intro h1 v H2 ⟨Z2, Fc, owc, g2, f2, sc, rv, _⟩
        dsimp only at h1
        by_cases hr : isRet r = true
        · rw [if_pos hr] at h1
          split at h1
          · rename_i δ' hb
            refine h1 v H2 ?_
            cases r with
            | dat d =>
              obtain ⟨g3, f3, st3⟩ := call_back (B := []) st1 r1 ea' hn g2 f2 sc hb (fun a m => by cases m)
              exact ⟨Z2, _, _, g1.trans f1 g3, f1.trans f3, st3, rv, fun e => by cases e⟩
            | own s =>
              obtain ⟨B, hs, hB⟩ := rv
              obtain ⟨g3, f3, st3⟩ := call_back (B := B) st1 r1 ea' hn g2 f2 sc hb (fun a m => ⟨(hB a m).1, (hB a m).2, hs.mem a m⟩)
              refine ⟨Z2, _, _, g1.trans f1 g3, f1.trans f3, st3, ⟨B, hs.mono (Same.refl _) fun a m o ho => ?_, fun a m => ⟨(hB a m).1, f1.free ((lend_same st1).free (hB a m).2)⟩⟩, fun e => by cases e⟩
              unfold backF
              rw [if_pos m]
              exact sc.f _ _ ho
            | loc i => cases hr
            | inn i => cases hr
          · exact h1.elim
        · rw [if_neg hr] at h1
          exact h1.elim
      | exc c back =>
        intro h1 H2 ⟨Z2, owc, g2, sc⟩
        dsimp only at h1
        split at h1
        · rename_i δ' hb
          obtain ⟨g3, f3, st3⟩ := call_back (B := []) st1 r1 ea' hn g2 (Same.refl _) sc hb (fun a m => by cases m)
          exact h1 H2 ⟨Z2, _, g1.trans f1 g3, st3.drop (f1.trans f3)⟩
        · exact h1.elim
      | stuck => exact fun h1 => h1.elim
    · rw [if_neg hn] at h1
      exact h1.elim
theorem pe_kCall (ck : Cok S Tl Cv n sc W X) {x : Str} {Fd : Fn} {es : M (List RV)} (h1 : glB sc x = true) (h2 : S.T.lookup x = some Fd) (hs : PA X (a :: as) (tL X.K Tl Cv W id es qs)) (oa : okE a = true) (hst : (backTo pos (starEach as X.env)).any (·.1) = false) :
    PE X (.Call (.Name x p) (a :: as) [] pos) (tE X.K Tl Cv W (kCall (evF S.T n) x es) false) := by
  obtain ⟨f, fd, fo, hm, hk, hb⟩ := ck.glo.fns x Fd h2
  obtain ⟨g1, g2⟩ := ck.gl h1
  refine ⟨fun pins s σ H Q I h => ?_⟩
  obtain ⟨Z, F, δ, ow, st, h⟩ := call_reads (qs := qs) h
  refine wpAny_Call_Name_kw (ld_glob I g1 hm ?_ g2)
  refine PySem.W.callWith_K (h₀ := X.base) I.ok.mod.kin hk (thn (hs.run pos pins s σ H _ I ⟨Z, F, δ, ow, st, h⟩) fun us s1 hx => ?_) (ok_star oa) hst
  obtain ⟨vs, H1, I1, r, q⟩ := hx
  refine ⟨I1.kIn, ?_⟩
  rw [List.append_nil] at q
  have hl : us.length = (Fd.names.take Fd.np).length := by rw [← r.length]; exact fo.len _ _ _ _ q
  have hbs := hb s1 us I1.kIn (by rw [List.append_nil]; exact hl)
  rw [List.append_nil] at hbs
  refine wpAny_call (codeAny_mono (fo.run X.A X.stack s1 H1 ⟨us, []⟩ us vs Q (fun cls d H => W cls d σ H) ck.room I1.env0 hbs r q) fun r' s' hq => ?_)
  cases r' with
  | error e => exact ck.tk e s' (XE.of_call I1 (fun cls d H' h => h) hq)
  | ok fl =>
    cases fl with
    | ret u => exact I1.after hq
    | next => exact False.elim hq
    | brk => exact False.elim hq
    | cont => exact False.elim hq
end
end Ev

set_option Elab.async false
set_option linter.all false
set_option maxRecDepth 100000
set_option maxHeartbeats 4000000
/-! Tables, pop, targets, what is walked. -/
namespace Ev
open PySem PySem.Spec PyProof.Rows L2
section
variable {S : Sx} {Tl : List (Addr × Str)} {Cv : Str → Value} {n : Nat} {sc : Scope} {W : WX} {X : Cx}
variable {a b c : Expr} {as : List Expr} {ea eb ec : M RV} {qa qb qs : Bool} {pos p ap : Pos}
/-! ### tables -/
theorem kvs_look : ∀ {kvs kvs' : List (Key × D)} (k : Key), kvsEq kvs kvs' = true → (∀ d, lookA kvs k = some d → ∃ d', lookA kvs' k = some d' ∧ scEq d d' = true) ∧ (lookA kvs k = none → lookA kvs' k = none)
  | [], [], k, _ => ⟨fun d e => (by cases e), fun _ => rfl⟩
  | (q, d) :: r, (q', d') :: s, k, h => by
    unfold kvsEq at h
    simp only [Bool.and_eq_true, decide_eq_true_eq] at h
    obtain ⟨⟨h1, h2⟩, h3⟩ := h
    subst h1
    obtain ⟨i1, i2⟩ := kvs_look k h3
    by_cases c : q = k
    · refine ⟨fun e h => ?_, fun h => ?_⟩
      · simp only [lookA, if_pos c, Option.some.injEq] at h
        subst h
        exact ⟨d', by simp only [lookA, if_pos c], h2⟩
      · simp only [lookA, if_pos c] at h; cases h
    · simp only [lookA, if_neg c]
      exact ⟨i1, i2⟩
  | [], _ :: _, _, h => by cases h
  | _ :: _, [], _, h => by cases h
theorem pe_kGd (ck : Cok S Tl Cv n sc W X) {y : Str} {kvs k : List (Key × D)} (h1 : glB sc y = true) (h2 : S.DT.lookup y = some k) (h3 : kvsEq kvs k = true) (ha : PE X a (tE X.K Tl Cv W ea qa)) (oa : okE a = true) :
    PE X (.Subscript (.Name y p) a pos) (tE X.K Tl Cv W (kGd kvs ea) qa) := by
  obtain ⟨d, es, m, hm, kd, hl⟩ := ck.glo.dct y k h2
  obtain ⟨g1, g2⟩ := ck.gl h1
  refine PE.imp (pe_ix ix_kdict (pe_glob (v := .ref d) g1 hm rfl g2) ha (ok_plain oa)) fun σ H Q ⟨Z, F, δ, ow, st, h⟩ => ⟨Z, F, δ, ow, st, h.bind.imp fun r δ1 h1 x H1 ⟨Z1, F1, ow1, g1, f1, st1, r1, s1⟩ => ?_⟩
  split at h1
  · rename_i z _
    obtain ⟨w, e, hp⟩ := h1.opt
    obtain ⟨dd, e1, e2⟩ := Option.map_eq_some_iff.mp e
    subst e2
    obtain ⟨d', e3, e4⟩ := (kvs_look (.inr z) h3).1 dd e1
    obtain ⟨u, hu, cu⟩ := (hl z).1 d' e3
    obtain ⟨v, rv, hr⟩ := cst_rel e4 cu
    exact ⟨d, z, v, rfl, rp_str r1, ⟨es, m, u, kd.at_, kd.lit, hu, rv⟩, hp v H1 (post_of g1 f1 st1 (hr _ _) s1)⟩
  · exact h1.elim
theorem ing_reads {neg : Bool} {K : PySem.W.Frag} {kvs k : List (Key × D)} {d : Addr} {σ : L2.St} {H : Hp} {Q : VK} (h3 : kvsEq kvs k = true)
    (hl : ∀ z : Str, (∀ d', lookA k (.inr z) = some d' → ∃ u, PySem.W.nsIn K d z = some (some u) ∧ cstR d' u) ∧ (lookA k (.inr z) = none → PySem.W.nsIn K d z = some none))
    (h : tE K Tl Cv W (kInG neg kvs ea) qa σ H Q) : tOp (fun x y H Q => ∃ (z : Str) (r : Option Value), x = .str z ∧ y = .ref d ∧ PySem.W.nsIn K d z = some r ∧ Q (.bl (if neg then !r.isSome else r.isSome)) H) (tE K Tl Cv W ea qa) (tC (.ref d)) σ H Q := by
  obtain ⟨Z, F, δ, ow, st, h⟩ := h
  refine ⟨Z, F, δ, ow, st, h.bind.imp fun r δ1 h1 x H1 ⟨Z1, F1, ow1, g1, f1, st1, r1, s1⟩ => ?_⟩
  split at h1
  · rename_i z _
    have fin : ∀ r, PySem.W.nsIn K d z = some r → r.isSome = (lookA kvs (.inr z)).isSome → tC (.ref d) σ H1 fun y H2 => ∃ (z : Str) (r : Option Value), x = .str z ∧ y = .ref d ∧ PySem.W.nsIn K d z = some r ∧ Q (.bl (if neg then !r.isSome else r.isSome)) H2 := fun r hr e => ⟨z, r, rp_str r1, rfl, hr, by
      rw [e]
      exact h1 _ H1 (post_of g1 f1 st1 (.bl _) s1)⟩
    cases e : lookA kvs (.inr z) with
    | none => exact fin none ((hl z).2 ((kvs_look (.inr z) h3).2 e)) (by rw [e]; rfl)
    | some dd =>
      obtain ⟨d', e3, e4⟩ := (kvs_look (.inr z) h3).1 dd e
      obtain ⟨u, hu, cu⟩ := (hl z).1 d' e3
      exact fin (some u) hu (by rw [e]; rfl)
  · exact h1.elim
theorem ing_op {neg : Bool} {d : Addr} {es : Array DictEntry} {m : Nat} (D : KDict X.K X.w d es m) : OpR X (compareOp (if neg then CmpOp.NotIn else CmpOp.In)) (fun x y H Q => ∃ (z : Str) (r : Option Value), x = .str z ∧ y = .ref d ∧ PySem.W.nsIn X.K d z = some r ∧ Q (.bl (if neg then !r.isSome else r.isSome)) H) := by
  cases neg
  · exact op_in_kd D
  · exact op_notIn_kd D
theorem pe_kInG (ck : Cok S Tl Cv n sc W X) {neg : Bool} {y : Str} {kvs k : List (Key × D)} (h1 : glB sc y = true) (h2 : S.DT.lookup y = some k) (h3 : kvsEq kvs k = true) (ha : PE X a (tE X.K Tl Cv W ea qa)) :
    PE X (.Compare a [if neg then CmpOp.NotIn else CmpOp.In] [.Name y p] pos) (tE X.K Tl Cv W (kInG neg kvs ea) qa) := by
  obtain ⟨d, es, m, hm, kd, hl⟩ := ck.glo.dct y k h2
  obtain ⟨g1, g2⟩ := ck.gl h1
  exact PE.imp (pe_cmpR (ing_op kd) ha (pe_glob (v := .ref d) g1 hm rfl g2) rfl) fun σ H Q h => ing_reads h3 hl h
theorem pt_kInG (ck : Cok S Tl Cv n sc W X) {neg : Bool} {y : Str} {kvs k : List (Key × D)} (h1 : glB sc y = true) (h2 : S.DT.lookup y = some k) (h3 : kvsEq kvs k = true) (ha : PE X a (tE X.K Tl Cv W ea qa)) :
    PT X (.Compare a [if neg then CmpOp.NotIn else CmpOp.In] [.Name y p] pos) (tT X.K Tl Cv W (kTest boolOf (kInG neg kvs ea))) := by
  obtain ⟨d, es, m, hm, kd, hl⟩ := ck.glo.dct y k h2
  obtain ⟨g1, g2⟩ := ck.gl h1
  exact PT.imp (pt_cmpR (ing_op kd) ha (pe_glob (v := .ref d) g1 hm rfl g2) rfl) fun σ H Q h => ing_reads h3 hl (bool_reads h)
/-! ### pop -/
/-- an own list's cell is written -/
theorem StR.updO {K : PySem.W.Frag} {Z F : Hp} {δ : Sts} {σ : L2.St} {H : Hp} {ow : Nat → List Addr} {i : Nat} {l : Addr} {o o' : HO} {s' : Slot} {v : V} (st : StR K Tl Z F δ σ H ow) (hi : i < δ.length) (hv : σ[i]? = some (some v)) (ho : H l = some o) (hm : l ∈ ow i)
    (hs : SlR K Z (upd H l o') s' v (ow i)) : StR K Tl Z F (δ.set i s') σ (upd H l o') ow := by
  have oth : ∀ j, j ≠ i → l ∉ ow j := fun j c m => c (st.dj j i l m hm)
  refine ⟨fun a u e => ?_, fun a u e => ?_, fun j hj => ?_, fun j hj => ?_, st.dj, st.fr, by rw [List.length_set]; exact st.ln, ?_, st.nz, st.nf⟩
  · have : a ≠ l := fun z => by rw [z, (st.fr i l hm).1] at e; cases e
    rw [upd_ne this]; exact st.z _ _ e
  · have : a ≠ l := fun z => by rw [z, (st.fr i l hm).2] at e; cases e
    rw [upd_ne this]; exact st.f _ _ e
  · rw [getS_set hi] at hj ⊢
    by_cases c : j = i
    · subst c; rw [if_pos rfl]; exact ⟨v, hv, hs⟩
    · rw [if_neg c] at hj ⊢
      obtain ⟨u, eu, q⟩ := st.sl j hj
      exact ⟨u, eu, q.mono (Same.refl _) fun a m o e => by rw [upd_ne (fun z : a = l => oth j c (z ▸ m))]; exact e⟩
  · rw [getS_set hi] at hj
    by_cases c : j = i
    · rw [if_pos c] at hj; exact absurd hj (slr_ne hs)
    · rw [if_neg c] at hj; exact st.em j hj
  · obtain ⟨o1, e1, ho1⟩ := st.own hm
    exact tabs_upd st.tb e1 ho1
theorem pe_kPop (ck : Cok S Tl Cv n sc W X) {i : Nat} {x : Str} (h1 : nmB S.N i x = true) (h2 : visB sc x = true) (hln : (ap.endLine == pos.line) = true) :
    PE X (.Call (.Attribute (.Name x p) "pop" ap) [] [] pos) (tE X.K Tl Cv W (kPop i) false) := by
  obtain ⟨e1, e2, e3⟩ := nm_of h1
  refine PE.imp (pe_bm0 PySem.F.plainAttrs_list PySem.F.slot_list_pop PySem.F.type_list_pop mt_pop (pe_var (i := i) (by rw [ck.N]; exact e1) (ck.vis h2) e2 e3) rfl hln) fun σ H Q ⟨Z, F, δ, ow, st, h⟩ => ?_
  unfold kPop at h
  split at h
  · rename_i ds hd
    split at h
    · rename_i d hx
      have hne : getS δ i ≠ .emp := by rw [hd]; exact fun z => by cases z
      obtain ⟨v, ev, hs⟩ := st.sl i hne
      rw [hd] at hs
      obtain ⟨l, vs, rfl, hl, r, hB⟩ := hs
      obtain ⟨y, ey, ry⟩ := r.get hx
      rw [← r.len] at ey
      refine ⟨_, ev, .inl ⟨rfl, vs, SqL.of hl⟩, l, vs, y, rfl, rfl, hl, ey, h y _ ⟨Z, F, ow, Gr.refl _ _, Same.refl _, ?_, ry, fun e => by cases e⟩⟩
      refine st.updO (slot_ne hne) ev hl (by rw [hB]; simp) ⟨l, _, rfl, upd_same, r.dropLast, hB⟩
    · exact h.elim
  · exact h.elim
end
/-! ### targets -/
def OffEq (ix : List Nat) (σ σ' : L2.St) : Prop := σ'.length = σ.length ∧ ∀ j, j ∉ ix → σ'[j]? = σ[j]?
theorem OffEq.trans {ix : List Nat} {a b c : L2.St} (h : OffEq ix a b) (g : OffEq ix b c) : OffEq ix a c := ⟨g.1.trans h.1, fun j hj => (g.2 j hj).trans (h.2 j hj)⟩
theorem OffEq.set {ix : List Nat} {σ : L2.St} {i : Nat} {x : Option V} (h : i ∈ ix) : OffEq ix σ (σ.set i x) := ⟨List.length_set, fun j hj => List.getElem?_set_ne (fun e : i = j => hj (e ▸ h))⟩
theorem OffEq.mono {ix jx : List Nat} {a b : L2.St} (h : OffEq ix a b) (s : ∀ i ∈ ix, i ∈ jx) : OffEq jx a b := ⟨h.1, fun j hj => h.2 j fun m => hj (s j m)⟩
def tGt (K : PySem.W.Frag) (Tl : List (Addr × Str)) (tg : Tg) : TG := fun v σ H Q => ∃ Z F δ ow d δ', StR K Tl Z F δ σ H ow ∧ Rp K Z v d ∧ asgD tg d δ = some δ' ∧ ∀ σ' ow', OffEq tg.ix σ σ' → StR K Tl Z F δ' σ' H ow' → Q σ' H
theorem PG.impI {X : Cx} {e : Expr} {t t' : TG} (h : PG X e t) (hi : ∀ v σ H Q, σ.length = X.N.length → t' v σ H Q → t v σ H Q) : PG X e t' := ⟨fun pins s σ H v u Q I r hw => h.run pins s σ H v u Q I r (hi v σ H Q I.len hw)⟩
theorem put_dat {K : PySem.W.Frag} {Tl : List (Addr × Str)} {Z F : Hp} {δ : Sts} {σ : L2.St} {H : Hp} {ow : Nat → List Addr} {i : Nat} {v : V} {d : D} (st : StR K Tl Z F δ σ H ow) (hi : i < σ.length) (r : Rp K Z v d) :
    StR K Tl Z F (δ.set i (.dat d)) (σ.set i (some v)) H (fun j => if j = i then [] else ow j) :=
  st.put (B := []) (by rw [st.ln]; exact hi) List.length_set (List.getElem?_set_self hi) (fun j c => List.getElem?_set_ne (Ne.symm c)) ⟨r, rfl⟩ (fun a m => by cases m)
def gNames : List Nat → TGs
  | [] => gNil
  | i :: is => gCons (gName i) (gNames is)
theorem names_reads {K : PySem.W.Frag} {Tl : List (Addr × Str)} : ∀ {is : List Nat} {vs : List V} {ds : List D} {Z F : Hp} {δ δ' : Sts} {σ : L2.St} {H : Hp} {ow : Nat → List Addr} {Q : L2.St → Hp → Prop}, (∀ i ∈ is, i < σ.length) → StR K Tl Z F δ σ H ow → RpL K Z vs ds → setAll is ds δ = some δ' →
    (∀ σ' ow', OffEq is σ σ' → StR K Tl Z F δ' σ' H ow' → Q σ' H) → gNames is vs σ H Q
  | [], _, _, Z, F, δ, δ', σ, H, ow, Q, _, st, .nil, e, h => by
    have : δ' = δ := (Option.some.inj e).symm
    subst this
    exact ⟨rfl, h σ ow ⟨rfl, fun _ _ => rfl⟩ st⟩
  | i :: is, _, _, Z, F, δ, δ', σ, H, ow, Q, hi, st, .cons r rs, e, h => by
    refine ⟨_, _, rfl, names_reads (fun j hj => by rw [List.length_set]; exact hi j (List.mem_cons_of_mem _ hj)) (put_dat st (hi i List.mem_cons_self) r) rs e fun σ' ow' o st' => h σ' ow' ?_ st'⟩
    exact (OffEq.set List.mem_cons_self).trans (o.mono fun j hj => List.mem_cons_of_mem _ hj)
  | [], _, _, _, _, _, _, _, _, _, _, _, _, .cons _ _, e, _ => by cases e
  | _ :: _, _, _, _, _, _, _, _, _, _, _, _, _, .nil, e, _ => by cases e
theorem setAll_len : ∀ {is : List Nat} {ds : List D} {δ δ' : Sts}, setAll is ds δ = some δ' → is.length = ds.length
  | [], [], _, _, _ => rfl
  | i :: is, d :: ds, δ, δ', e => by rw [List.length_cons, List.length_cons, setAll_len (δ := δ.set i (.dat d)) e]
  | [], _ :: _, _, _, e => by cases e
  | _ :: _, [], _, _, e => by cases e
theorem assign_names {env : Env} : ∀ {es : List Expr}, (∀ e ∈ es, ∃ x p, e = .Name x p) → (assignEach es env).length = es.length ∧ (assignEach es env).findIdx? (·.1) = none
  | [], _ => ⟨rfl, rfl⟩
  | e :: es, h => by
    obtain ⟨x, p, rfl⟩ := h e List.mem_cons_self
    obtain ⟨h1, h2⟩ := assign_names (env := env) fun e he => h e (List.mem_cons_of_mem _ he)
    refine ⟨by show _ + 1 = _; rw [h1]; rfl, ?_⟩
    show List.findIdx? _ ((false, _) :: assignEach es env) = none
    rw [List.findIdx?_cons, h2]; rfl
section
variable {Tl : List (Addr × Str)} {X : Cx} {pos : Pos} {N : List Str}
/-- a name that may be stored -/
def StoN (X : Cx) (i : Nat) (e : Expr) : Prop := ∃ x p, e = .Name x p ∧ X.N[i]? = some x ∧ PG X e (gName i)
def StoAll (X : Cx) : List Nat → List Expr → Prop
  | [], [] => True
  | i :: is, e :: es => StoN X i e ∧ StoAll X is es
  | _, _ => False
theorem StoAll.pgs : ∀ {is : List Nat} {es : List Expr}, StoAll X is es → PGs X es (gNames is) ∧ (∀ i ∈ is, i < X.N.length) ∧ is.length = es.length ∧ ∀ e ∈ es, ∃ x p, e = .Name x p
  | [], [], _ => ⟨pgs_nil, (fun _ h => by cases h), rfl, (fun _ h => by cases h)⟩
  | i :: is, e :: es, ⟨⟨x, p, e1, e2, h⟩, t⟩ => by
    obtain ⟨h1, h2, h3, h4⟩ := StoAll.pgs t
    subst e1
    refine ⟨pgs_cons h h1 rfl, fun j hj => ?_, by simp [h3], fun e he => ?_⟩
    · rcases List.mem_cons.mp hj with rfl | hj
      · exact (List.getElem?_eq_some_iff.mp e2).1
      · exact h2 j hj
    · rcases List.mem_cons.mp he with rfl | he
      · exact ⟨_, _, rfl⟩
      · exact h4 e he
  | [], _ :: _, h => h.elim
  | _ :: _, [], h => h.elim
def StoT (X : Cx) : Tg → Expr → Prop
  | .nm i, e => StoN X i e
  | .tup is, e => ∃ es k p, e = .Tuple es k p ∧ StoAll X is es
theorem StoT.pg (hc : X.calm = true) : ∀ {tg : Tg} {e : Expr}, StoT X tg e → PG X e (tGt X.K Tl tg)
  | .nm i, e, ⟨x, p, e1, e2, h⟩ => by
    refine PG.impI h fun v σ H Q hl ⟨Z, F, δ, ow, d, δ', st, r, ea, hq⟩ => ?_
    have : δ' = δ.set i (.dat d) := (Option.some.inj ea).symm
    subst this
    exact hq _ _ (OffEq.set (by simp [Tg.ix])) (put_dat st (by rw [hl]; exact (List.getElem?_eq_some_iff.mp e2).1) r)
  | .tup is, e, ⟨es, k, p, e1, h⟩ => by
    subst e1
    obtain ⟨h1, h2, h3, h4⟩ := h.pgs
    obtain ⟨l1', l2⟩ := assign_names (env := X.env) h4
    refine PG.impI (pg_tup hc h1 rfl l2) fun v σ H Q hl ⟨Z, F, δ, ow, d, δ', st, r, ea, hq⟩ => ?_
    unfold asgD at ea
    cases d with
    | tuple ds =>
      cases r with
      | tup hz rr =>
        refine ⟨_, _, rfl, SqT.of (st.z _ _ hz), ?_, names_reads (fun i hi => by rw [hl]; exact h2 i hi) st rr ea hq⟩
        rw [rr.len, ← setAll_len ea, h3, l1']
    | _ => cases ea
end
end Ev

set_option Elab.async false
set_option linter.all false
set_option maxRecDepth 100000
set_option maxHeartbeats 4000000
/-! enumerate(v) over a tuple. -/
namespace Ev
open PySem PySem.Spec PyProof.Rows L2
theorem meets_enum_newB {v : Value} {o : Obj} {H : Heap → Prop} (B : Begins v o H) :
    Meets (Builtin.«enumerate.__new__» ⟨[.type "enumerate", v], []⟩) (fun _ R s => H s.heap ∧
      R (.ok (.ret (.ref (s.heap.push o).objs.size))) { s with heap := (s.heap.push o).push { cls := .type "enumerate", data := .fields #[.none, .bool false, .ref s.heap.objs.size, rawInt 0, .none, .none] } }) :=
  .of_wp fun prog w A R s h => by
    obtain ⟨hp, g, d, tk, os⟩ := s; obtain ⟨h1, h⟩ := h
    have hsub := sub_enumerate
    have q1 : ∀ {A' : Around} {E : Value → Shared → Prop} {Q : Value → Shared → Prop}, Q (.ref hp.objs.size) ⟨hp.push o, g, d, tk, os⟩ → wpAny (model prog w) A' (pyIter v) Q E ⟨hp, g, d, tk, os⟩ :=
      fun q => B.iter prog w _ _ ⟨hp, g, d, tk, os⟩ _ h1 q
    wp_walk using q1
    refine wpAny_stack_any fun st => wpAny_pure ?_
    split
    · rename_i c _ _ _ _ _
      cases (c == Value.type "enumerate")
      · wp_walk using q1
        exact ⟨_, rfl, h⟩
      · wp_walk using q1
        exact ⟨_, rfl, h⟩
    · wp_walk using q1
      exact ⟨_, rfl, h⟩
section
variable {prog : Program} {w : World} {A : Around} {E : Value → Shared → Prop} {s : Shared}
theorem enum_begins1 {v : Value} {o : Obj} {H : Heap → Prop} {Q : Value → Shared → Prop} (B : Begins v o H) (h1 : H s.heap)
    (h : ∀ h', IsEnum h' (s.heap.objs.size + 1) s.heap.objs.size 0 .none → h'.get? s.heap.objs.size = some o → h'.objs.size = s.heap.objs.size + 2 →
      (∀ b o, s.heap.get? b = some o → h'.get? b = some o) → Q (.ref (s.heap.objs.size + 1)) { s with heap := h' }) :
    wpAny (model prog w) A (call (.type "enumerate") [v]) Q E s := by
  refine callType_new F.called_enumerate (by decide) (F.typeCall_enumerate_1 _) (F.newCall_enumerate_1 _) (fun obj => F.args_object_init_2 obj _) F.entry_enumerate_new
    (meets_enum_newB B) ⟨h1, ?_⟩
  have hz : (s.heap.push o).objs.size = s.heap.objs.size + 1 := Heap.size_push ..
  show _ ∧ _
  rw [hz]
  have he : IsEnum ((s.heap.push o).push { cls := .type "enumerate", data := .fields #[.none, .bool false, .ref s.heap.objs.size, rawInt 0, .none, .none] }) (s.heap.objs.size + 1) s.heap.objs.size 0 .none := by
    have := Heap.get?_push_size (s.heap.push o) (o := { cls := .type "enumerate", data := .fields #[.none, .bool false, .ref s.heap.objs.size, rawInt 0, .none, .none] }) rfl
    rw [hz] at this; exact this
  refine ⟨⟨_, he, rfl⟩, h _ he (Heap.get?_push_of_some _ (Heap.get?_push_size _ B.free)) (by rw [Heap.size_push, hz]) fun b o x => Heap.get?_push_of_some _ (Heap.get?_push_of_some _ x)⟩
end
/-- the tuple at a as it stands at each turn, with its numbers, in new pairs -/
def IteT (K : PySem.W.Frag) (a : Addr) : L2.It :=
  ⟨fun i H => ∃ (xs : List V) (x : V), SqT K H a xs ∧ xs[i]? = some x, fun i H v H' => ∃ T x, v = .ref T ∧ H T = none ∧ H' = upd H T (.tup [.int (i : Nat), x]) ∧ ∀ xs, SqT K H a xs → xs[i]? = some x, fun i H => ∃ xs : List V, SqT K H a xs ∧ xs.length ≤ i⟩
theorem apart_cls {h : Heap} {e a : Addr} {its : Array Value} {o : Obj} (ho : h.get? e = some o) (hc : o.cls ≠ .type "tuple") (hT : h.IsTuple a its) : e ≠ a := by
  rintro rfl
  obtain ⟨o', ho', hc', _⟩ := hT
  rw [ho] at ho'
  cases ho'
  exact hc hc'
theorem turn_enumT {P : Program} {w : World} {K : PySem.W.Frag} {elts : List Expr} {kk : Nat} {tpos : Pos} (a e it : Addr) :
    Turn P w K (.Tuple elts kk tpos) (IteT K a) [e, it] e (fun i h => (∃ old, IsEnum h e it ((i : Nat) : Int) old) ∧ h.IsTupleIter it a i ∧ e ≠ it) where
  mem := by simp
  obj := fun i h st b hb => by
    obtain ⟨⟨old, he⟩, ⟨o, ho, hc, hd⟩, _⟩ := st
    have e' : b = e ∨ b = it := by simpa using hb
    rcases e' with z | z
    · rw [z]; exact ⟨_, he, fun v q => nomatch q⟩
    · rw [z]; exact ⟨o, ho, fun v q => by rw [hd] at q; cases q⟩
  keep := fun i h h' st k => let ⟨⟨old, he⟩, hi, hne⟩ := st; ⟨⟨old, k e (by simp) _ he⟩, hi.at fun o q => k it (by simp) o q, hne⟩
  item := by
    intro X hP hw hK hc i pins s σ H E I hf st hg
    subst hP hw hK
    obtain ⟨⟨old, he⟩, hit, hne⟩ := st
    obtain ⟨xs, x, hq, hx⟩ := hg
    obtain ⟨its, rv, p, hz⟩ := I.tuple hq
    obtain ⟨u, hu, ru⟩ := rv.get hx
    have hel : e < s.heap.objs.size := Heap.lt_size he
    have hil : it < s.heap.objs.size := by obtain ⟨_, q, _⟩ := hit; exact Heap.lt_size q
    have hea : e ≠ a := apart_cls he (by simp) p
    have hia : it ≠ a := by obtain ⟨o, ho, hc', _⟩ := id hit; exact apart_cls ho (by rw [hc']; simp) p
    have hsz' : i < its.toArray.size := by
      have h1 := List.getElem?_eq_some_iff.mp hu
      simpa using h1.1
    refine wpAny_pyNext_enum_itemC (Draws.tuple (prog := X.prog) (w := X.w) (A := X.A.in1) (show X.A.in1.handled = none from I.ok.hd hc) it a (Ne.symm hia) its.toArray) he ⟨hit, p⟩ hsz' hne (by simp [hne, hea]) fun x' h' tk hP ho hst hT hsz hk => ?_
    have hxu : x' = u := by
      have h1 : its[i]? = some x' := by simpa using hP
      rw [hu] at h1; cases h1; rfl
    subst hxu
    refine ⟨_, rfl, wpAny_letOwnedTupleGo_enum (s := { s with heap := h', toks := tk + 1 }) ho fun h'' he' sb => ?_⟩
    have hT2 : h''.get? s.heap.objs.size = some { cls := .type "tuple", data := .seq #[.int i tk, x'] } := (sb.2 _ (Nat.ne_of_gt hel)).trans hT
    have new : ObjOk X.prog X.w (upd H s.heap.objs.size (.tup [.int (i : Nat), x])) h'' s.heap.objs.size (.tup [.int (i : Nat), x]) :=
      ⟨by show 2 ≤ sizeLine; decide, [.int i tk, x'], .cons ⟨_, rfl⟩ (.cons ru .nil), ⟨_, hT2, rfl, _, rfl⟩⟩
    have I1 : Inv X pins σ (upd H s.heap.objs.size (.tup [.int (i : Nat), x])) { s with heap := h'', toks := tk + 1 } :=
      I.turnedNew (ch := [e, it]) (fun b ob hb q => (sb.2 b (fun z => hb (by simp [z]))).trans (hk b ob (fun z => hb (by simp [z])) (fun z => hb (by simp [z])) q)) hf (Nat.le_refl _) new
    refine ⟨.ref s.heap.objs.size, _, I1, rfl, ⟨_, x, rfl, I.hok.fresh (Nat.le_refl _), rfl, fun ys hy => by rw [I.tuple_inj hy hq]; exact hx⟩, ⟨⟨x', ?_⟩, hst.1.at fun o q => (sb.2 it (Ne.symm hne)).trans q, hne⟩, fun b hb => ?_⟩
    · have e1 : ((i + 1 : Nat) : Int) = (i : Int) + 1 := by omega
      rw [e1]; exact he'
    · have hb' : b < s.heap.objs.size := by
        have e' : b = e ∨ b = it := by simpa using hb
        rcases e' with z | z
        · rw [z]; exact hel
        · rw [z]; exact hil
      rw [upd_ne (Nat.ne_of_lt hb')]
      exact (hf b hb).1
  done := by
    intro X hP hw hK hc i pins s σ H E I hf st hg
    subst hP hw hK
    obtain ⟨⟨old, he⟩, hit, hne⟩ := st
    obtain ⟨xs, hq, hx⟩ := hg
    obtain ⟨its, rv, p, hz⟩ := I.tuple hq
    obtain ⟨f0, f1, f2, f3, f4, f5⟩ := hf it (by simp)
    have hl := rv.length
    have hT : s.TypeIs (.ref e) "enumerate" := ⟨_, he, rfl⟩
    unfold pyNext
    refine wpAny_bind (wpAny_attempt (wpAny_callSpecial?_slot (name := Str.ofString "__next__") hT PySem.F.slot_enumerate_next
      (wpAny_call_entry PySem.F.slot_enumerate_next hT PySem.F.entry_enumerate_next ?_ (PySem.F.args_enumerate_next_1 _))))
    show wpAny _ _ (field (.ref e) 2 >>= _) _ _ _
    refine wpAny_bind (wpAny_field he rfl (x := .ref it) rfl ?_)
    refine wpAny_bind (wpAny_nextOf_tuple_end (I.ok.hd hc) hit p (by simp; omega) fun h' x he' hx' => ?_)
    obtain ⟨o, ho, hc⟩ := hx'
    refine wpAny_bind (wpAny_isInstance (T := "StopIteration") (b := true) ⟨o, ho, hc⟩ isSubtype_stop ?_)
    exact wpAny_pure ⟨rfl, I.turned (t' := s.toks) (fun b o hb q => he' b o hb q) f0 f1 f3 f4 f5⟩
  self := fun A i s Q E st h => let ⟨⟨_, he⟩, _⟩ := st; wpAny_pyIter_enum he h
def iEnumT (K : PySem.W.Frag) (ta : TA) : TI := fun σ H R => ta σ H fun vs H1 => ∃ a xs, vs = [.ref a] ∧ ((SqL K H1 a xs ∧ R (Ite K a) H1) ∨ (SqT K H1 a xs ∧ R (IteT K a) H1))
theorem pi_enumT {X : Cx} {e : Expr} {ta : TA} {p pos tpos : Pos} {elts : List Expr} {kk : Nat} (hg : Gl X "enumerate") (hm : X.mg "enumerate" = none) (ha : PA X [e] ta) (hs : starEach [e] X.env = [(false, eval e X.env)] := by rfl) :
    PI X (.Tuple elts kk tpos) (.Call (.Name "enumerate" p) [e] [] pos) (iEnumT X.K ta) := by
  refine ⟨fun pins s σ H R I h => ?_⟩
  refine Call_ (ld_blt I hg hm boot_enumerate (PyProof.Rows.callWith_type1 (thn (ha.run pos pins s σ H _ I h) fun us s1 ⟨vs, H1, I1, r1, q1⟩ => ?_) hs rfl))
  obtain ⟨a, xs, ex, q⟩ := q1
  subst ex
  have low : ∀ b ∈ [s1.heap.objs.size + 1, s1.heap.objs.size], FpOk X pins H1 b := fun b hb => by
    have e' : b = s1.heap.objs.size + 1 ∨ b = s1.heap.objs.size := by simpa using hb
    have hle : s1.heap.objs.size ≤ b := by
      rcases e' with z | z
      · rw [z]; exact Nat.le_add_right _ _
      · rw [z]; exact Nat.le_refl _
    exact I1.fpOk hle (I1.hok.fresh hle)
  cases r1 with
  | cons r rr =>
    cases rr
    cases r
    rcases q with ⟨hq, q⟩ | ⟨hq, q⟩
    · obtain ⟨its, rv, p', hz⟩ := I1.list hq
      refine call_enumerate_list p'.isList fun h' he hit hsz hk => wpAny_pyIter_enum he ?_
      have I2 : Inv X pins σ H1 { s1 with heap := h' } := I1.kept (t' := s1.toks) hk
      exact ⟨s1.heap.objs.size + 1, [s1.heap.objs.size + 1, s1.heap.objs.size], _, _, H1, rfl, I2, turn_enum a (s1.heap.objs.size + 1) s1.heap.objs.size, ⟨⟨.none, he⟩, hit, Nat.succ_ne_self _⟩, low, q⟩
    · obtain ⟨its, rv, p', hz⟩ := I1.tuple hq
      refine enum_begins1 (begins_tuple a its.toArray) p' fun h' he hit hsz hk => wpAny_pyIter_enum he ?_
      have I2 : Inv X pins σ H1 { s1 with heap := h' } := I1.kept (t' := s1.toks) hk
      exact ⟨s1.heap.objs.size + 1, [s1.heap.objs.size + 1, s1.heap.objs.size], _, _, H1, rfl, I2, turn_enumT a (s1.heap.objs.size + 1) s1.heap.objs.size, ⟨⟨.none, he⟩, ⟨_, hit, rfl, rfl⟩, Nat.succ_ne_self _⟩, low, q⟩
end Ev

set_option Elab.async false
set_option linter.all false
set_option maxRecDepth 100000
set_option maxHeartbeats 4000000
/-! What is walked. -/
namespace Ev
open PySem PySem.Spec PyProof.Rows L2
structure ItOk (K : PySem.W.Frag) (Z : Hp) (ds : List D) (J : L2.It) : Prop where
  go : ∀ i H, Same Z H → i < ds.length → J.go i H
  yl : ∀ i H d x H', Same Z H → ds[i]? = some d → J.yld i H x H' → NewR K Z H (.dat d) x H'
  st : ∀ i H, Same Z H → ds.length ≤ i → J.stop i H
def tI (K : PySem.W.Frag) (Tl : List (Addr × Str)) (Cv : Str → Value) (W : WX) (ev : M (List D)) : TI := fun σ H R => ∃ Z F δ ow, StR K Tl Z F δ σ H ow ∧ RP K Tl Cv W Z F σ (ev δ) fun ds δ' => ∀ J H' Z' ow', Gr Z F Z' → StR K Tl Z' F δ' σ H' ow' → ItOk K Z' ds J → R J H'
theorem PI.imp {X : Cx} {tg e : Expr} {t t' : TI} (h : PI X tg e t) (hi : ∀ σ H Q, t' σ H Q → t σ H Q) : PI X tg e t' := ⟨fun pins s σ H Q I hw => h.run pins s σ H Q I (hi σ H Q hw)⟩
section
variable {K : PySem.W.Frag} {Z : Hp}
theorem it_list {a : Addr} {xs : List V} {ds : List D} (e : Z a = some (.lst xs)) (r : RpL K Z xs ds) : ItOk K Z ds (Itl K a) where
  go := fun i H s h => ⟨xs, xs[i]'(by rw [r.len]; exact h), SqL.of (s _ _ e), by simp⟩
  yl := fun i H d x H' s h ⟨e1, e2⟩ => by
    obtain ⟨v, ev, rv⟩ := r.get h
    rw [e2 xs (SqL.of (s _ _ e))] at ev
    cases ev
    exact .inl ⟨e1, rv⟩
  st := fun i H s h => ⟨xs, SqL.of (s _ _ e), by rw [r.len]; exact h⟩
theorem it_tup {a : Addr} {xs : List V} {ds : List D} (e : Z a = some (.tup xs)) (r : RpL K Z xs ds) : ItOk K Z ds (Itt K a) where
  go := fun i H s h => ⟨xs, xs[i]'(by rw [r.len]; exact h), SqT.of (s _ _ e), by simp⟩
  yl := fun i H d x H' s h ⟨e1, e2⟩ => by
    obtain ⟨v, ev, rv⟩ := r.get h
    rw [e2 xs (SqT.of (s _ _ e))] at ev
    cases ev
    exact .inl ⟨e1, rv⟩
  st := fun i H s h => ⟨xs, SqT.of (s _ _ e), by rw [r.len]; exact h⟩
theorem range_len (a c : Int) : ∀ n, (rangeL a c n).length = n
  | 0 => rfl
  | n + 1 => by
    show (rangeL (a + c) c n).length + 1 = n + 1
    rw [range_len (a + c) c n]
theorem range_get (c : Int) : ∀ (n : Nat) (a : Int) (i : Nat) (d : D), (rangeL a c n)[i]? = some d → d = .int (a + i * c)
  | 0, a, i, d, h => by simp [rangeL] at h
  | n + 1, a, 0, d, h => by simp [rangeL] at h; subst h; simp
  | n + 1, a, i + 1, d, h => by
    have h' : (rangeL (a + c) c n)[i]? = some d := by simpa [rangeL] using h
    rw [range_get c n (a + c) i d h']
    have : a + c + i * c = a + ((i + 1 : Nat) : Int) * c := by
      rw [Int.natCast_add, Int.add_mul]
      simp only [Int.natCast_one, Int.one_mul]
      omega
    rw [this]
theorem it_range {lo : Int} {n : Nat} : ItOk K Z (rangeL lo 1 n) (Itr lo n) where
  go := fun i H s h => by rw [range_len] at h; exact h
  yl := fun i H d x H' s h ⟨e1, e2⟩ => by
    have := range_get 1 n lo i d h
    rw [Int.mul_one] at this
    subst this e2
    exact .inl ⟨e1, .int _⟩
  st := fun i H s h => by rw [range_len] at h; exact h
theorem it_rangeC {lo c : Int} {n : Nat} : ItOk K Z (rangeL lo c n) (Itc lo c n) where
  go := fun i H s h => by rw [range_len] at h; exact h
  yl := fun i H d x H' s h ⟨e1, e2⟩ => by
    have := range_get c n lo i d h
    subst this e2
    exact .inl ⟨e1, .int _⟩
  st := fun i H s h => by rw [range_len] at h; exact h
theorem enum_len : ∀ (k : Nat) (ds : List D), (enumL k ds).length = ds.length
  | k, [] => rfl
  | k, d :: ds => by
    show (enumL (k + 1) ds).length + 1 = _
    rw [enum_len (k + 1) ds]; rfl
theorem enum_get : ∀ (ds : List D) (k i : Nat) (d : D), (enumL k ds)[i]? = some d → ∃ e, ds[i]? = some e ∧ d = .tuple [.int ((k + i : Nat) : Int), e]
  | [], k, i, d, h => by simp [enumL] at h
  | e :: ds, k, 0, d, h => by simp [enumL] at h; subst h; exact ⟨e, rfl, rfl⟩
  | e :: ds, k, i + 1, d, h => by
    have h' : (enumL (k + 1) ds)[i]? = some d := by simpa [enumL] using h
    obtain ⟨e', h1, h2⟩ := enum_get ds (k + 1) i d h'
    refine ⟨e', by simpa using h1, ?_⟩
    rw [h2]
    have : k + 1 + i = k + (i + 1) := by omega
    rw [this]
theorem it_enum {a : Addr} {xs : List V} {ds : List D} (e : Z a = some (.lst xs)) (r : RpL K Z xs ds) : ItOk K Z (enumL 0 ds) (Ite K a) where
  go := fun i H s h => by
    rw [enum_len] at h
    exact ⟨xs, xs[i]'(by rw [r.len]; exact h), SqL.of (s _ _ e), by simp⟩
  yl := fun i H d x H' s h ⟨T, y, e1, e2, e3, e4⟩ => by
    obtain ⟨d', h1, h2⟩ := enum_get ds 0 i d h
    obtain ⟨v, ev, rv⟩ := r.get h1
    rw [e4 xs (SqL.of (s _ _ e))] at ev
    cases ev
    subst h2 e1
    refine .inr ⟨T, _, e2, e3, (fun ps z => by cases z), .tup upd_same (.cons ?_ (.cons (rv.mono (same_upd (s.free e2))) .nil))⟩
    rw [Nat.zero_add]
    exact .int _
  st := fun i H s h => by
    rw [enum_len] at h
    exact ⟨xs, SqL.of (s _ _ e), by rw [r.len]; exact h⟩
theorem it_enumT {a : Addr} {xs : List V} {ds : List D} (e : Z a = some (.tup xs)) (r : RpL K Z xs ds) : ItOk K Z (enumL 0 ds) (IteT K a) where
  go := fun i H s h => by
    rw [enum_len] at h
    exact ⟨xs, xs[i]'(by rw [r.len]; exact h), SqT.of (s _ _ e), by simp⟩
  yl := fun i H d x H' s h ⟨T, y, e1, e2, e3, e4⟩ => by
    obtain ⟨d', h1, h2⟩ := enum_get ds 0 i d h
    obtain ⟨v, ev, rv⟩ := r.get h1
    rw [e4 xs (SqT.of (s _ _ e))] at ev
    cases ev
    subst h2 e1
    refine .inr ⟨T, _, e2, e3, (fun ps z => by cases z), .tup upd_same (.cons ?_ (.cons (rv.mono (same_upd (s.free e2))) .nil))⟩
    rw [Nat.zero_add]
    exact .int _
  st := fun i H s h => by
    rw [enum_len] at h
    exact ⟨xs, SqT.of (s _ _ e), by rw [r.len]; exact h⟩
theorem zip_len : ∀ (ds es : List D), (zipL ds es).length = min ds.length es.length
  | [], es => by cases es <;> simp [zipL]
  | d :: ds, [] => by simp [zipL]
  | d :: ds, e :: es => by
    show (zipL ds es).length + 1 = _
    rw [zip_len ds es, List.length_cons, List.length_cons]
    omega
theorem zip_get : ∀ (ds es : List D) (i : Nat) (d : D), (zipL ds es)[i]? = some d → ∃ x y, ds[i]? = some x ∧ es[i]? = some y ∧ d = .tuple [x, y]
  | [], es, i, d, h => by cases es <;> simp [zipL] at h
  | x :: ds, [], i, d, h => by simp [zipL] at h
  | x :: ds, y :: es, 0, d, h => by simp [zipL] at h; subst h; exact ⟨x, y, rfl, rfl, rfl⟩
  | x :: ds, y :: es, i + 1, d, h => by
    obtain ⟨x', y', h1, h2, h3⟩ := zip_get ds es i d (by simpa [zipL] using h)
    exact ⟨x', y', by simpa using h1, by simpa using h2, h3⟩
theorem it_zip {a b : Addr} {xs ys : List V} {ds es : List D} (e : Z a = some (.lst xs)) (r : RpL K Z xs ds) (e' : Z b = some (.lst ys)) (r' : RpL K Z ys es) : ItOk K Z (zipL ds es) (Itz K a b) where
  go := fun i H s h => by
    rw [zip_len] at h
    have h1 : i < xs.length := by rw [r.len]; omega
    have h2 : i < ys.length := by rw [r'.len]; omega
    exact ⟨xs, ys, xs[i], ys[i], SqL.of (s _ _ e), SqL.of (s _ _ e'), by simp, by simp⟩
  yl := fun i H d x H' s h ⟨T, u, v, e1, e2, e3, e4, e5⟩ => by
    obtain ⟨du, dv, h1, h2, h3⟩ := zip_get ds es i d h
    obtain ⟨u', eu, ru⟩ := r.get h1
    obtain ⟨v', ev, rv⟩ := r'.get h2
    rw [e4 xs (SqL.of (s _ _ e))] at eu
    rw [e5 ys (SqL.of (s _ _ e'))] at ev
    cases eu
    cases ev
    subst h3 e1
    exact .inr ⟨T, _, e2, e3, (fun ps z => by cases z), .tup upd_same (.cons (ru.mono (same_upd (s.free e2))) (.cons (rv.mono (same_upd (s.free e2))) .nil))⟩
  st := fun i H s h => by
    rw [zip_len] at h
    refine ⟨xs, ys, SqL.of (s _ _ e), SqL.of (s _ _ e'), ?_⟩
    rw [r.len, r'.len]
    omega
theorem it_zipT {a b : Addr} {xs ys : List V} {ds es : List D} (e : Z a = some (.tup xs)) (r : RpL K Z xs ds) (e' : Z b = some (.tup ys)) (r' : RpL K Z ys es) : ItOk K Z (zipL ds es) (RZ.ItzT K a b) where
  go := fun i H s h => by
    rw [zip_len] at h
    have h1 : i < xs.length := by rw [r.len]; omega
    have h2 : i < ys.length := by rw [r'.len]; omega
    exact ⟨xs, ys, xs[i], ys[i], SqT.of (s _ _ e), SqT.of (s _ _ e'), by simp, by simp⟩
  yl := fun i H d x H' s h ⟨T, u, v, e1, e2, e3, e4, e5⟩ => by
    obtain ⟨du, dv, h1, h2, h3⟩ := zip_get ds es i d h
    obtain ⟨u', eu, ru⟩ := r.get h1
    obtain ⟨v', ev, rv⟩ := r'.get h2
    rw [e4 xs (SqT.of (s _ _ e))] at eu
    rw [e5 ys (SqT.of (s _ _ e'))] at ev
    cases eu
    cases ev
    subst h3 e1
    exact .inr ⟨T, _, e2, e3, (fun ps z => by cases z), .tup upd_same (.cons (ru.mono (same_upd (s.free e2))) (.cons (rv.mono (same_upd (s.free e2))) .nil))⟩
  st := fun i H s h => by
    rw [zip_len] at h
    refine ⟨xs, ys, SqT.of (s _ _ e), SqT.of (s _ _ e'), ?_⟩
    rw [r.len, r'.len]
    omega
end
section
variable {S : Sx} {Tl : List (Addr × Str)} {Cv : Str → Value} {n : Nat} {sc : Scope} {W : WX} {X : Cx}
variable {a b c tg : Expr} {as : List Expr} {ea eb ec : M RV} {qa qb qc qs : Bool} {pos p ap : Pos}
theorem pi_seq (ha : PE X a (tE X.K Tl Cv W ea qa)) : PI X tg a (tI X.K Tl Cv W (kSeq ea)) := by
  refine ⟨fun pins s σ H R I ⟨Z, F, δ, ow, st, h⟩ => ?_⟩
  refine thn (ha.run pins s σ H (fun x H1 => ∃ Z1 d ds, Same Z1 H1 ∧ Rp X.K Z1 x d ∧ listD d = some ds ∧ ∀ J, ItOk X.K Z1 ds J → R J H1) I ⟨Z, F, δ, ow, st, h.bind.imp fun r δ1 h1 x H1 hp => ?_⟩) fun v s1 hx => ?_
  · obtain ⟨d, δ', h2, Z1, F1, ow1, g1, f1, st1, r1, s1⟩ := settle_post hp h1.bind
    obtain ⟨ds, e, h3⟩ := h2.opt
    exact ⟨Z1, d, ds, st1.z, r1, e, fun J hJ => h3 J H1 Z1 ow1 g1 (st1.drop f1) hJ⟩
  · obtain ⟨x, H1, I1, r1, Z1, d, ds, sz, rp, e, q⟩ := hx
    cases rp with
    | lst hz r =>
      cases e
      cases r1
      obtain ⟨its, rv, p, hz'⟩ := I1.list (SqL.of (sz _ _ hz))
      refine wpAny_pyIter_list p.isList ?_
      exact pi_one (tk := s1.toks) I1 _ (turn_list _ _) ⟨_, Heap.get?_push_size _ rfl, rfl, rfl⟩ (q _ (it_list hz r))
    | tup hz r =>
      cases e
      cases r1
      obtain ⟨its, rv, p, hz'⟩ := I1.tuple (SqT.of (sz _ _ hz))
      refine wpAny_pyIter_tuple (show s1.heap.IsTuple _ its.toArray from p) ?_
      exact pi_one (tk := s1.toks) I1 _ (turn_tuple _ _) ⟨_, Heap.get?_push_size _ rfl, rfl, rfl⟩ (q _ (it_tup hz r))
    | _ => cases e
theorem int_bind {K : PySem.W.Frag} {Z F : Hp} {σ : L2.St} {α : Type} {δ : Sts} {m : M RV} {f : Int → Sts → Res α} {post : α → Sts → Prop} (h : RP K Tl Cv W Z F σ ((kInt m δ).bind f) post) :
    RP K Tl Cv W Z F σ (m δ) fun r δ1 => ∃ i, r = .dat (.int i) ∧ (-(2 ^ 62) ≤ i ∧ i < 2 ^ 62) ∧ RP K Tl Cv W Z F σ (f i δ1) post := by
  refine h.bind.bind.imp fun r δ1 h1 => ?_
  cases r with
  | dat d => cases d with
    | int i =>
      dsimp only at h1
      by_cases c : in62 i = true
      · rw [if_pos c] at h1
        refine ⟨i, rfl, ?_, h1⟩
        unfold in62 at c
        rw [Bool.and_eq_true] at c
        exact ⟨of_decide_eq_true c.1, of_decide_eq_true c.2⟩
      · rw [if_neg c] at h1
        exact h1.elim
    | _ => exact (show False from h1).elim
  | _ => exact (show False from h1).elim
theorem star_one (oa : okE a = true) : starEach [a] X.env = [(false, eval a X.env)] := ok_star oa
theorem star_two (oa : okE a = true) (ob : okE b = true) : starEach [a, b] X.env = [(false, eval a X.env), (false, eval b X.env)] := by
  rw [ok_star oa, ok_star ob]; rfl
theorem pi_kR1 (ck : Cok S Tl Cv n sc W X) {f : Str} (hf : f = "range") (h1 : glB sc f = true) (oa : okE a = true) (ha : PE X a (tE X.K Tl Cv W ea qa)) : PI X tg (.Call (.Name f p) [a] [] pos) (tI X.K Tl Cv W (kR1 ea)) := by
  subst hf
  refine PI.imp (pi_range1 (ck.gl h1).1 (ck.glo.blt _ (by decide)) (pa_cons ha pa_nil (star_one oa)) (star_one oa)) fun σ H R ⟨Z, F, δ, ow, st, h⟩ => ?_
  refine ⟨Z, F, δ, ow, st, (int_bind h).imp fun r δ1 ⟨i, e, b, h1⟩ x H1 ⟨Z1, F1, ow1, g1, f1, st1, r1, s1⟩ => ?_⟩
  subst e
  exact ⟨i, by rw [rp_int r1], b.1, b.2, h1 _ H1 Z1 ow1 g1 (st1.drop f1) it_range⟩
theorem pi_kR2 (ck : Cok S Tl Cv n sc W X) {f : Str} (hf : f = "range") (h1 : glB sc f = true) (oa : okE a = true) (ob : okE b = true) (ha : PE X a (tE X.K Tl Cv W ea qa)) (hb : PE X b (tE X.K Tl Cv W eb qb)) : PI X tg (.Call (.Name f p) [a, b] [] pos) (tI X.K Tl Cv W (kR2 ea eb)) := by
  subst hf
  refine PI.imp (pi_range2 (ck.gl h1).1 (ck.glo.blt _ (by decide)) (pa_cons ha (pa_cons hb pa_nil (star_one ob)) (ok_star oa)) (star_two oa ob) (star_one ob)) fun σ H R ⟨Z, F, δ, ow, st, h⟩ => ?_
  refine ⟨Z, F, δ, ow, st, (int_bind h).imp fun r δ1 ⟨i, e, bi, h1⟩ x H1 ⟨Z1, F1, ow1, g1, f1, st1, r1, s1⟩ => ?_⟩
  subst e
  refine ⟨Z1, F1, δ1, ow1, st1, ((int_bind h1).weak g1 f1).imp fun r2 δ2 ⟨j, e, bj, h2⟩ y H2 ⟨Z2, F2, ow2, g2, f2, st2, r2, s2⟩ => ?_⟩
  subst e
  exact ⟨i, j, by rw [rp_int r1, rp_int r2], ⟨bi.1, bi.2, bj.1, bj.2⟩, h2 _ H2 Z2 ow2 (g1.trans f1 g2) (st2.drop (f1.trans f2)) it_range⟩
theorem pi_kR3 (ck : Cok S Tl Cv n sc W X) {f : Str} (hf : f = "range") (h1 : glB sc f = true) (oa : okE a = true) (ob : okE b = true) (oc : okE c = true) (ha : PE X a (tE X.K Tl Cv W ea qa)) (hb : PE X b (tE X.K Tl Cv W eb qb)) (hc : PE X c (tE X.K Tl Cv W ec qc)) :
    PI X tg (.Call (.Name f p) [a, b, c] [] pos) (tI X.K Tl Cv W (kR3 ea eb ec)) := by
  subst hf
  refine PI.imp (pi_range3 (ck.gl h1).1 (ck.glo.blt _ (by decide)) (pa_cons ha (pa_cons hb (pa_cons hc pa_nil (star_one oc)) (ok_star ob)) (ok_star oa)) (ok_star oa) (by rw [star_two ob oc]; rfl)) fun σ H R ⟨Z, F, δ, ow, st, h⟩ => ?_
  refine ⟨Z, F, δ, ow, st, (int_bind h).imp fun r δ1 ⟨i, e, bi, h1⟩ x H1 ⟨Z1, F1, ow1, g1, f1, st1, r1, s1⟩ => ?_⟩
  subst e
  refine ⟨Z1, F1, δ1, ow1, st1, ((int_bind h1).weak g1 f1).imp fun r2 δ2 ⟨j, e, bj, h2⟩ y H2 ⟨Z2, F2, ow2, g2, f2, st2, r2, s2⟩ => ?_⟩
  subst e
  have g12 := g1.trans f1 g2
  have f12 := f1.trans f2
  refine ⟨Z2, F2, δ2, ow2, st2, ((int_bind h2).weak g12 f12).imp fun r3 δ3 ⟨k, e, bk, h3⟩ y H3 ⟨Z3, F3, ow3, g3, f3, st3, r3, s3⟩ => ?_⟩
  subst e
  by_cases hk : (k == -1) = true
  · rw [if_pos hk] at h3
    have hk : k = -1 := by simpa using hk
    subst hk
    exact ⟨i, j, -1, (i - j).toNat, by rw [rp_int r1, rp_int r2, rp_int r3], RgC.neg bi.1 bi.2 bj.1 bj.2, h3 _ H3 Z3 ow3 (g12.trans f12 g3) (st3.drop (f12.trans f3)) it_rangeC⟩
  · rw [if_neg hk] at h3
    exact h3.elim
theorem pi_kEnum (ck : Cok S Tl Cv n sc W X) {f : Str} {elts : List Expr} {kk : Nat} {tpos : Pos} (hf : f = "enumerate") (h1 : glB sc f = true) (oa : okE a = true) (ha : PE X a (tE X.K Tl Cv W ea qa)) : PI X (.Tuple elts kk tpos) (.Call (.Name f p) [a] [] pos) (tI X.K Tl Cv W (kEnum ea)) := by
  subst hf
  refine PI.imp (pi_enumT (ck.gl h1).1 (ck.glo.blt _ (by decide)) (pa_cons ha pa_nil (star_one oa)) (star_one oa)) fun σ H R ⟨Z, F, δ, ow, st, h⟩ => ⟨Z, F, δ, ow, st, h.bind.imp fun r δ1 h1 x H1 hp => ?_⟩
  obtain ⟨d, δ', h2, Z1, F1, ow1, g1, f1, st1, r1, s1⟩ := settle_post hp h1.bind
  cases d with
  | list ds =>
    cases r1 with
    | lst hz r => exact ⟨_, _, rfl, .inl ⟨SqL.of (st1.z _ _ hz), h2 _ H1 Z1 ow1 g1 (st1.drop f1) (it_enum hz r)⟩⟩
  | tuple ds =>
    cases r1 with
    | tup hz r => exact ⟨_, _, rfl, .inr ⟨SqT.of (st1.z _ _ hz), h2 _ H1 Z1 ow1 g1 (st1.drop f1) (it_enumT hz r)⟩⟩
  | _ => exact (show False from h2).elim
theorem pi_kZip (ck : Cok S Tl Cv n sc W X) {f : Str} {elts : List Expr} {kk : Nat} {tpos : Pos} (hf : f = "zip") (h1 : glB sc f = true) (oa : okE a = true) (ob : okE b = true) (ha : PE X a (tE X.K Tl Cv W ea qa)) (hb : PE X b (tE X.K Tl Cv W eb qb)) :
    PI X (.Tuple elts kk tpos) (.Call (.Name f p) [a, b] [] pos) (tI X.K Tl Cv W (kZip ea eb)) := by
  subst hf
  refine PI.imp (RZ.pi_zipA (ck.gl h1).1 (ck.glo.blt _ (by decide)) (pa_cons ha (pa_cons hb pa_nil (star_one ob)) (ok_star oa)) (ok_star oa) (by rw [star_one ob]; rfl)) fun σ H R ⟨Z, F, δ, ow, st, h⟩ => ⟨Z, F, δ, ow, st, h.bind.imp fun r δ1 h1 x H1 hp => ?_⟩
  obtain ⟨d, δ', h2, Z1, F1, ow1, g1, f1, st1, r1, s1⟩ := settle_post hp h1.bind
  refine ⟨Z1, F1, δ', ow1, st1, (h2.bind.weak g1 f1).imp fun r' δ2 h3 y H2 hp2 => ?_⟩
  obtain ⟨d2, δ3, h4, Z2, F2, ow2, g2, f2, st2, r2, s2⟩ := settle_post hp2 h3.bind
  have r1' := Rp.mono g2.s r1
  cases d with
  | list ds => cases d2 with
    | list es =>
      cases r1' with
      | lst hz r => cases r2 with
        | lst hz' r' => exact ⟨_, _, _, _, rfl, .inl ⟨SqL.of (st2.z _ _ hz), SqL.of (st2.z _ _ hz'), h4 _ H2 Z2 ow2 (g1.trans f1 g2) (st2.drop (f1.trans f2)) (it_zip hz r hz' r')⟩⟩
    | _ => exact (show False from h4).elim
  | tuple ds => cases d2 with
    | tuple es =>
      cases r1' with
      | tup hz r => cases r2 with
        | tup hz' r' => exact ⟨_, _, _, _, rfl, .inr ⟨SqT.of (st2.z _ _ hz), SqT.of (st2.z _ _ hz'), h4 _ H2 Z2 ow2 (g1.trans f1 g2) (st2.drop (f1.trans f2)) (it_zipT hz r hz' r')⟩⟩
    | _ => exact (show False from h4).elim
  | _ => exact (show False from h4).elim
end
end Ev

set_option Elab.async false
set_option linter.all false
set_option maxRecDepth 100000
set_option maxHeartbeats 4000000
/-! List comprehensions. -/
namespace Ev
open PySem PySem.Spec PyProof.Rows L2
theorem wipe_at {σ : L2.St} : ∀ {vs : List Nat} {j : Nat}, j ∉ vs → (wipe σ vs)[j]? = σ[j]?
  | [], j, _ => rfl
  | v :: vs, j, h => by
    unfold wipe
    rw [List.getElem?_set_ne (fun e : v = j => h (e ▸ List.mem_cons_self))]
    exact wipe_at fun m => h (List.mem_cons_of_mem _ m)
theorem wipe_own {σ : L2.St} : ∀ {vs : List Nat} {j : Nat}, j ∈ vs → j < σ.length → (wipe σ vs)[j]? = some none
  | v :: vs, j, h, hl => by
    unfold wipe
    by_cases c : v = j
    · subst c
      exact List.getElem?_set_self (by rw [wipe_length]; exact hl)
    · rw [List.getElem?_set_ne c]
      exact wipe_own ((List.mem_cons.mp h).resolve_left fun e => c e.symm) hl
theorem wipe_off {a b : L2.St} {vs : List Nat} (h : OffEq vs a b) : wipe b vs = wipe a vs := by
  apply List.ext_getElem?
  intro j
  by_cases c : j ∈ vs
  · by_cases d : j < a.length
    · rw [wipe_own c d, wipe_own c (by rw [h.1]; exact d)]
    · rw [List.getElem?_eq_none (by rw [wipe_length, h.1]; omega), List.getElem?_eq_none (by rw [wipe_length]; omega)]
  · rw [wipe_at c, wipe_at c]; exact h.2 j c
theorem off_wipe {σ : L2.St} {vs : List Nat} : OffEq vs σ (wipe σ vs) := ⟨wipe_length σ vs, fun j hj => wipe_at hj⟩
theorem wipeS_len {δ : Sts} : ∀ {vs : List Nat}, (wipeS δ vs).length = δ.length
  | [] => rfl
  | v :: vs => by unfold wipeS; rw [List.length_set, wipeS_len]
theorem backS_len {δ0 δ : Sts} : ∀ {vs : List Nat}, (backS δ0 δ vs).length = δ.length
  | [] => rfl
  | v :: vs => by unfold backS; rw [List.length_set, backS_len]
theorem backS_at {δ0 δ : Sts} : ∀ {vs : List Nat} {j : Nat}, (∀ v ∈ vs, v < δ.length) → getS (backS δ0 δ vs) j = if j ∈ vs then getS δ0 j else getS δ j
  | [], j, _ => by simp [backS]
  | v :: vs, j, h => by
    unfold backS
    rw [getS_set (by rw [backS_len]; exact h v List.mem_cons_self)]
    by_cases c : j = v
    · subst c; simp
    · rw [if_neg c, backS_at fun u hu => h u (List.mem_cons_of_mem _ hu)]
      simp [c]
section
variable {K : PySem.W.Frag} {Tl : List (Addr × Str)} {Cv : Str → Value} {W : WX} {Z F : Hp} {δ : Sts} {σ : L2.St} {H : Hp} {ow : Nat → List Addr}
theorem StR.wiped (st : StR K Tl Z F δ σ H ow) : ∀ {vs : List Nat}, (∀ v ∈ vs, v < δ.length) → ∃ ow', StR K Tl Z F (wipeS δ vs) (wipe σ vs) H ow'
  | [], _ => ⟨ow, st⟩
  | v :: vs, h => by
    obtain ⟨ow', st'⟩ := st.wiped (vs := vs) fun u hu => h u (List.mem_cons_of_mem _ hu)
    exact ⟨_, st'.clear (by rw [wipeS_len]; exact h v List.mem_cons_self) List.length_set fun j c => List.getElem?_set_ne (Ne.symm c)⟩
theorem plain_mem {vs : List Nat} (h : plainS δ vs = true) : ∀ v ∈ vs, v < δ.length ∧ isPlain (getS δ v) = true := fun v hv => by
  have := List.all_eq_true.mp h v hv
  rw [Bool.and_eq_true] at this
  exact ⟨of_decide_eq_true this.1, this.2⟩
/-- the block's names as they were -/
theorem StR.back {Z1 F1 H1 : Hp} {δ1 : Sts} {σ1 : L2.St} {ow1 : Nat → List Addr} {vs : List Nat} (st1 : StR K Tl Z1 F1 δ1 σ1 H1 ow1) (p : plainS δ1 vs = true) (st : StR K Tl Z F δ σ H ow) (s : Same Z1 Z) (o : OffEq vs σ σ1) : StR K Tl Z F (backS δ1 δ vs) σ1 H (fun j => if j ∈ vs then [] else ow j) := by
  have pm := plain_mem p
  have hl : ∀ v ∈ vs, v < δ.length := fun v hv => by
    have := (pm v hv).1
    rw [st.ln, ← o.1, ← st1.ln]; exact this
  refine ⟨st.z, st.f, fun j hj => ?_, fun j hj => ?_, fun j k a hj hk => ?_, fun j a hj => ?_, by rw [backS_len, st.ln, o.1], st.tb, st.nz, st.nf⟩
  · rw [backS_at hl] at hj ⊢
    by_cases c : j ∈ vs
    · simp only [if_pos c] at hj ⊢
      obtain ⟨v, ev, h⟩ := st1.sl j hj
      refine ⟨v, ev, ?_⟩
      have hp := (pm j c).2
      revert h hp hj
      cases getS δ1 j with
      | dat d => exact fun _ h _ => ⟨h.1.mono s, rfl⟩
      | emp => exact fun h => absurd rfl h
      | _ => exact fun _ _ h => by cases h
    · simp only [if_neg c] at hj ⊢
      obtain ⟨v, ev, h⟩ := st.sl j hj
      exact ⟨v, (o.2 j c).trans ev, h⟩
  · rw [backS_at hl] at hj
    by_cases c : j ∈ vs
    · rw [if_pos c]
    · rw [if_neg c] at hj ⊢
      exact st.em j hj
  · by_cases c : j ∈ vs
    · rw [if_pos c] at hj; cases hj
    · by_cases d : k ∈ vs
      · rw [if_pos d] at hk; cases hk
      · rw [if_neg c] at hj; rw [if_neg d] at hk; exact st.dj j k a hj hk
  · by_cases c : j ∈ vs
    · rw [if_pos c] at hj; cases hj
    · rw [if_neg c] at hj; exact st.fr j a hj
/-- a cell of the frame is written -/
theorem StR.wrF {G : Hp} {p : Addr} {o o' : HO} (st : StR K Tl Z (upd G p o) δ σ H ow) (hz : Z p = none) (ho : isOwn o = true) (ho' : isOwn o' = true) : StR K Tl Z (upd G p o') δ σ (upd H p o') ow := by
  have np : ∀ i, p ∉ ow i := fun i m => by
    have := (st.fr i p m).2
    rw [upd_same] at this; cases this
  have hp : H p = some o := st.f _ _ upd_same
  refine ⟨fun a u e => ?_, fun a u e => ?_, fun j hj => ?_, st.em, st.dj, fun i a m => ⟨(st.fr i a m).1, ?_⟩, st.ln, tabs_upd st.tb hp ho, st.nz, fun a ps e => ?_⟩
  · rw [upd_ne (fun z : a = p => by rw [z, hz] at e; cases e)]; exact st.z _ _ e
  · by_cases c : a = p
    · subst c; rw [upd_same] at e ⊢; exact e
    · rw [upd_ne c] at e ⊢
      exact st.f _ _ (by rw [upd_ne c]; exact e)
  · obtain ⟨v, ev, h⟩ := st.sl j hj
    exact ⟨v, ev, h.mono (Same.refl _) fun a m o e => by rw [upd_ne (fun z : a = p => np j (z ▸ m))]; exact e⟩
  · have h := (st.fr i a m).2
    have c : a ≠ p := fun z => np i (z ▸ m)
    rw [upd_ne c] at h ⊢; exact h
  · by_cases c : a = p
    · subst c; rw [upd_same] at e
      exact isOwn_ne ho' ps (Option.some.inj e)
    · rw [upd_ne c] at e
      exact st.nf a ps (by rw [upd_ne c]; exact e)
end
theorem ItOk.mono {K : PySem.W.Frag} {Z Z' : Hp} {ds : List D} {J : L2.It} (h : ItOk K Z ds J) (s : Same Z Z') : ItOk K Z' ds J where
  go := fun i H q => h.go i H (s.trans q)
  yl := fun i H d x H' q e y => by
    rcases h.yl i H d x H' (s.trans q) e y with ⟨e1, r⟩ | ⟨p, o, e1, e2, e3, r⟩
    · exact .inl ⟨e1, r.mono s⟩
    · refine .inr ⟨p, o, e1, e2, e3, r.mono fun a u hu => ?_⟩
      by_cases c : a = p
      · subst c; rw [upd_same] at hu ⊢; exact hu
      · rw [upd_ne c] at hu ⊢; exact s _ _ hu
  st := fun i H q => h.st i H (s.trans q)
/-! ### the turns -/
def W0 : WX := fun _ _ _ _ => False
theorem drop_at {α : Type} {ds : List α} {i : Nat} (h : i < ds.length) : ds.drop i = ds[i] :: ds.drop (i + 1) := List.drop_eq_getElem_cons h
section
variable {S : Sx} {Tl : List (Addr × Str)} {Cv : Str → Value} {n : Nat} {sc : Scope} {W : WX} {X : Cx}
/-- what a turn's step ends with -/
theorem stepC_ok {own : List Nat} {tg : Tg} {cs : M Bool} {elt : M RV} {d : D} {δ : Sts} {o : Option D} {δ' : Sts} (h : stepC own tg cs elt d δ = .ok o δ') :
    ∃ δa b δb, asgD tg d (wipeS δ own) = some δa ∧ cs δa = .ok b δb ∧ ((b = false ∧ o = none ∧ δ' = δb) ∨ ∃ r δc y, b = true ∧ elt δb = .ok r δc ∧ settle r δc = .ok y δ' ∧ o = some y) := by
  unfold stepC at h
  split at h
  · rename_i δa ea
    cases ec : cs δa with
    | ok b δb =>
      rw [ec] at h
      refine ⟨δa, b, δb, ea, ec, ?_⟩
      change (if b = true then _ else _) = _ at h
      cases b with
      | false =>
        rw [if_neg (by simp)] at h
        cases h
        exact .inl ⟨rfl, rfl, rfl⟩
      | true =>
        rw [if_pos rfl] at h
        cases ee : elt δb with
        | ok r δc =>
          rw [ee] at h
          change (settle r δc).bind _ = _ at h
          cases es : settle r δc with
          | ok y δd =>
            rw [es] at h
            cases h
            exact .inr ⟨r, δc, y, rfl, rfl, es, rfl⟩
          | exc c δd => rw [es] at h; cases h
          | stuck => rw [es] at h; cases h
        | exc c δc => rw [ee] at h; cases h
        | stuck => rw [ee] at h; cases h
    | exc c δb => rw [ec] at h; cases h
    | stuck => rw [ec] at h; cases h
  · cases h
theorem comp_turns {K : PySem.W.Frag} {own : List Nat} {tg : Tg} {cs : M Bool} {elt : M RV} {qe : Bool} {ds : List D} {J : L2.It} {Z F Z1 H1 : Hp} {σ : L2.St} {δ1 : Sts} {ow1 : Nat → List Addr} {D0 : Addr} {post : List D → Sts → Prop} {Qd : Hp → Prop}
    (hin : ∀ i ∈ tg.ix, i ∈ own) (st1 : StR K Tl Z1 F δ1 σ H1 ow1) (it : ItOk K Z1 ds J) (pl : plainS δ1 own = true) (hlen : ds.length ≤ sizeLine) (hD : H1 D0 = none)
    (h : RP K Tl Cv W Z F σ (compF (stepC own tg cs elt) ds [] δ1) post)
    (fin : ∀ ys δ' Z2 ow2 H vs, post ys δ' → Gr Z1 F Z2 → Z2 D0 = none → F D0 = none → StR K Tl Z2 (upd F D0 (.lst vs)) (backS δ1 δ' own) σ H ow2 → RpL K Z2 vs ys → Qd H) :
    ∃ Wn : Nat → Nat → Hp → Prop, (∃ m, Wn 0 m (upd H1 D0 (.lst []))) ∧ ∀ i m H, Wn i m H → (J.stop i H ∧ Qd H) ∨ (J.go i H ∧ ∃ Nx : Hp → Prop, (∀ H', Nx H' → ∃ m', m' < m ∧ Wn (i + 1) m' H') ∧ ∀ x H', J.yld i H x H' → tGt K Tl tg x (wipe σ own) H' fun σ2 H2 => wipe σ2 own = wipe σ own ∧ tT K Tl Cv W0 cs σ2 H2 fun b H3 =>
      if b = true then tE K Tl Cv W0 elt qe σ2 H3 fun y H4 => ∃ acc, H4 D0 = some (.lst acc) ∧ acc.length < sizeLine ∧ Nx (upd H4 D0 (.lst (acc ++ [y]))) else Nx H3) := by
  obtain ⟨n1, n2, n3⟩ := st1.new_not hD
  let P : Nat → Hp → Prop := fun i H => ∃ acc vs Z2 ow2 δ2 σ2, wipe σ2 own = wipe σ own ∧ Gr Z1 F Z2 ∧ Z2 D0 = none ∧ StR K Tl Z2 (upd F D0 (.lst vs)) δ2 σ2 H ow2 ∧ RpL K Z2 vs acc ∧ acc.length ≤ i ∧ RP K Tl Cv W Z F σ (compF (stepC own tg cs elt) (ds.drop i) acc δ2) post
  have fF : ∀ o, Same F (upd F D0 o) := fun o => same_upd n3
  have len : ∀ {σ2 : L2.St}, wipe σ2 own = wipe σ own → σ2.length = σ.length := fun {σ2} e => by
    have := congrArg List.length e
    rw [wipe_length, wipe_length] at this; exact this
  refine ⟨fun i m H => m = ds.length - i ∧ i ≤ ds.length ∧ P i H, ⟨ds.length, by simp, Nat.zero_le _, [], [], Z1, ow1, δ1, σ, rfl, Gr.refl _ _, n2, st1.newF hD (fun ps e => by cases e), .nil, Nat.le_refl _, h⟩, ?_⟩
  rintro i m H ⟨rfl, hi, acc, vs, Z2, ow2, δ2, σ2, ew, g2, z2, st2, rp, hacc, hr⟩
  by_cases hlt : i < ds.length
  · refine .inr ⟨it.go i H (g2.s.trans st2.z) hlt, P (i + 1), fun H' p => ⟨ds.length - (i + 1), by omega, rfl, hlt, p⟩, fun x H' hy => ?_⟩
    rw [drop_at hlt] at hr
    unfold compF at hr
    have key : ∀ o δ', stepC own tg cs elt ds[i] δ2 = .ok o δ' → (∀ y, o = some y → RP K Tl Cv W Z F σ (compF (stepC own tg cs elt) (ds.drop (i + 1)) (acc ++ [y]) δ') post) → (o = none → RP K Tl Cv W Z F σ (compF (stepC own tg cs elt) (ds.drop (i + 1)) acc δ') post) →
        tGt K Tl tg x (wipe σ own) H' fun σ2 H2 => wipe σ2 own = wipe σ own ∧ tT K Tl Cv W0 cs σ2 H2 fun b H3 =>
          if b = true then tE K Tl Cv W0 elt qe σ2 H3 fun y H4 => ∃ acc, H4 D0 = some (.lst acc) ∧ acc.length < sizeLine ∧ P (i + 1) (upd H4 D0 (.lst (acc ++ [y]))) else P (i + 1) H3 := fun o δ' e k1 k2 => by
      obtain ⟨δa, b, δb, ea, ec, hb⟩ := stepC_ok e
      obtain ⟨Z3, F3, ow3, g3, f3, st3, r3, _⟩ := new_post (H0 := H) (q := true) st2 (Gr.refl _ _) (Same.refl _) (fun _ => Same.refl _) ((it.mono g2.s).yl i H ds[i] x H' st2.z (by simp [hlt]) hy)
      have pm : ∀ v ∈ own, v < δ2.length := fun v hv => by
        have := (plain_mem pl v hv).1
        rw [st2.ln, len ew, ← st1.ln]; exact this
      obtain ⟨ow4, st4⟩ := (st3.drop f3).wiped (vs := own) pm
      rw [ew] at st4
      refine ⟨Z3, _, wipeS δ2 own, ow4, ds[i], δa, st4, r3, ea, fun σ' ow' off st5 => ?_⟩
      have ew' : wipe σ' own = wipe σ own := by
        rw [wipe_off (off.mono hin), wipe_off off_wipe]
      refine ⟨ew', Z3, _, δa, ow', st5, ?_⟩
      have g13 : Gr Z1 F Z3 := g2.trans (fF _) g3
      have z3 : Z3 D0 = none := g3.n _ z2 (by rw [upd_same]; simp)
      rw [ec]
      intro H3 ⟨Z4, ow6, g4, st6⟩
      have z4 : Z4 D0 = none := g4.n _ z3 (by rw [upd_same]; simp)
      rcases hb with ⟨rfl, rfl, rfl⟩ | ⟨r, δc, y, rfl, ee, es, rfl⟩
      · rw [if_neg (by simp)]
        exact ⟨acc, vs, Z4, ow6, δ', σ', ew', g13.trans (fF _) g4, z4, st6, rp.mono (g3.s.trans g4.s), by omega, k2 rfl⟩
      · rw [if_pos rfl]
        refine ⟨Z4, _, δb, ow6, st6, ?_⟩
        rw [ee]
        intro v H4 hp
        obtain ⟨d', δ'', ⟨e1, e2⟩, Z5, F5, ow7, g5, f5, st7, r5, _⟩ := settle_post (Cv := Cv) (W := W) (Z0 := Z) (F0 := F) (post := fun d δ => d = y ∧ δ = δ') hp (by rw [es]; exact ⟨rfl, rfl⟩)
        subst e1 e2
        have z5 : Z5 D0 = none := g5.n _ z4 (by rw [upd_same]; simp)
        have st8 := st7.drop f5
        refine ⟨vs, st8.f _ _ upd_same, by rw [rp.len]; omega, acc ++ [d'], vs ++ [v], Z5, ow7, δ'', σ', ew', (g13.trans (fF _) g4).trans (fF _) g5, z5, st8.wrF z5 rfl rfl, (rp.mono (g3.s.trans (g4.s.trans g5.s))).app (.cons r5 .nil), by simp; omega, k1 _ rfl⟩
    cases e : stepC own tg cs elt ds[i] δ2 with
    | ok o δ' =>
      rw [e] at hr
      refine key o δ' e (fun y ey => ?_) (fun eo => ?_)
      · subst ey; exact hr
      · subst eo; exact hr
    | exc c δ' => rw [e] at hr; exact hr.elim
    | stuck => rw [e] at hr; exact hr.elim
  · have e : i = ds.length := by omega
    subst e
    rw [List.drop_eq_nil_of_le (Nat.le_refl _)] at hr
    exact .inl ⟨it.st _ H (g2.s.trans st2.z) (Nat.le_refl _), fin acc δ2 Z2 _ H vs hr g2 z2 n3 (st1.back pl st2 g2.s ⟨(len ew).symm, fun j hj => by
      have := congrArg (fun l : L2.St => l[j]?) ew
      rw [wipe_at hj, wipe_at hj] at this
      exact this.symm⟩) rp⟩
end
end Ev

set_option Elab.async false
set_option linter.all false
set_option maxRecDepth 100000
set_option maxHeartbeats 4000000
/-! List comprehensions as expressions. -/
namespace Ev
open PySem PySem.Spec PyProof.Rows L2
theorem ownL_ix (N : List Str) (own : List Nat) : (ownL N own).map (·.2) = own := by
  unfold ownL
  rw [List.map_map]
  exact List.map_id' own
section
variable {S : Sx} {Tl : List (Addr × Str)} {Cv : Str → Value} {n : Nat} {sc : Scope} {W : WX} {X : Cx}
theorem Cok.blk (ck : Cok S Tl Cv n sc W X) {s : Shared} {H : Hp} {scope : Scope} {C : Addr} {cl : List (Str × Addr)} {fp : List Addr} : Cok S Tl Cv n (relS scope sc) W0 (X.blk s H scope (compEnvC scope cl C X.env) fp) where
  N := ck.N
  sc := by
    rw [← ck.sc]
    rfl
  nd := ck.nd
  calm := ck.calm
  tk := LamX.takes0
  room := ck.room
  lam := fun f tbl h => ⟨(ck.lam f tbl h).room, (ck.lam f tbl h).code, (ck.lam f tbl h).said⟩
  glo := ck.glo
theorem stepR_ok {own : List Nat} {tg : Tg} {elt : M RV} {d : D} {δ : Sts} {o : List D} {δ' : Sts} (h : stepR own tg elt d δ = .ok o δ') :
    ∃ δa, asgD tg d (wipeS δ own) = some δa ∧ elt δa = .ok (.own (.lst o)) δ' := by
  unfold stepR at h
  split at h
  · rename_i δa ea
    cases ee : elt δa with
    | ok r δb =>
      rw [ee] at h
      refine ⟨δa, ea, ?_⟩
      cases r with
      | own s => cases s with
        | lst ys => cases h; exact ee
        | _ => cases h
      | _ => cases h
    | exc c δb => rw [ee] at h; cases h
    | stuck => rw [ee] at h; cases h
  · cases h
theorem rows_app {K : PySem.W.Frag} {Z G : Hp} : ∀ {as : List Addr} {dss : List (List D)} {a : Addr} {ds : List D} {vs : List V}, RowsR K Z G as dss → G a = some (.lst vs) → RpL K Z vs ds → RowsR K Z G (as ++ [a]) (dss ++ [ds])
  | [], [], a, ds, vs, _, e, r => ⟨⟨vs, e, r⟩, trivial⟩
  | _ :: _, _ :: _, a, ds, vs, ⟨h, t⟩, e, r => ⟨h, rows_app t e r⟩
  | [], _ :: _, _, _, _, h, _, _ => h.elim
  | _ :: _, [], _, _, _, h, _, _ => h.elim
theorem compR_turns {K : PySem.W.Frag} {own : List Nat} {tg : Tg} {elt : M RV} {qe : Bool} {ds : List D} {J : L2.It} {Z F Z1 H1 : Hp} {σ : L2.St} {δ1 : Sts} {ow1 : Nat → List Addr} {D0 : Addr} {post : List (List D) → Sts → Prop} {Qd : Hp → Prop}
    (hin : ∀ i ∈ tg.ix, i ∈ own) (st1 : StR K Tl Z1 F δ1 σ H1 ow1) (it : ItOk K Z1 ds J) (pl : plainS δ1 own = true) (hlen : ds.length ≤ sizeLine) (hD : H1 D0 = none)
    (h : RP K Tl Cv W Z F σ (compR (stepR own tg elt) ds [] δ1) post)
    (fin : ∀ dss δ' Z2 ow2 H G as, post dss δ' → Gr Z1 F Z2 → Z2 D0 = none → F D0 = none → Same F G → (∀ a ∈ as, Z2 a = none ∧ F a = none) → (D0 :: as).Nodup → RowsR K Z2 G as dss → StR K Tl Z2 (upd G D0 (.lst (as.map V.ref))) (backS δ1 δ' own) σ H ow2 → Qd H) :
    ∃ Wn : Nat → Nat → Hp → Prop, (∃ m, Wn 0 m (upd H1 D0 (.lst []))) ∧ ∀ i m H, Wn i m H → (J.stop i H ∧ Qd H) ∨ (J.go i H ∧ ∃ Nx : Hp → Prop, (∀ H', Nx H' → ∃ m', m' < m ∧ Wn (i + 1) m' H') ∧ ∀ x H', J.yld i H x H' → tGt K Tl tg x (wipe σ own) H' fun σ2 H2 => wipe σ2 own = wipe σ own ∧ tYes σ2 H2 fun b H3 =>
      if b = true then tE K Tl Cv W0 elt qe σ2 H3 fun y H4 => ∃ acc, H4 D0 = some (.lst acc) ∧ acc.length < sizeLine ∧ Nx (upd H4 D0 (.lst (acc ++ [y]))) else Nx H3) := by
  obtain ⟨n1, n2, n3⟩ := st1.new_not hD
  let P : Nat → Hp → Prop := fun i H => ∃ dss as Z2 G ow2 δ2 σ2, wipe σ2 own = wipe σ own ∧ Gr Z1 F Z2 ∧ Z2 D0 = none ∧ Same F G ∧ G D0 = none ∧ (∀ a ∈ as, Z2 a = none ∧ F a = none) ∧ (D0 :: as).Nodup ∧ RowsR K Z2 G as dss ∧ StR K Tl Z2 (upd G D0 (.lst (as.map V.ref))) δ2 σ2 H ow2 ∧ as.length ≤ i ∧ RP K Tl Cv W Z F σ (compR (stepR own tg elt) (ds.drop i) dss δ2) post
  have len : ∀ {σ2 : L2.St}, wipe σ2 own = wipe σ own → σ2.length = σ.length := fun {σ2} e => by
    have := congrArg List.length e
    rw [wipe_length, wipe_length] at this; exact this
  refine ⟨fun i m H => m = ds.length - i ∧ i ≤ ds.length ∧ P i H, ⟨ds.length, by simp, Nat.zero_le _, [], [], Z1, F, ow1, δ1, σ, rfl, Gr.refl _ _, n2, Same.refl _, n3, (fun a m => by cases m), by simp, trivial, st1.newF hD (fun ps e => by cases e), Nat.le_refl _, h⟩, ?_⟩
  rintro i m H ⟨rfl, hi, dss, as, Z2, G, ow2, δ2, σ2, ew, g2, z2, fG, gD, hz, nd, rw', st2, hacc, hr⟩
  have fF : ∀ o, Same F (upd G D0 o) := fun o => fG.trans (same_upd gD)
  by_cases hlt : i < ds.length
  · refine .inr ⟨it.go i H (g2.s.trans st2.z) hlt, P (i + 1), fun H' p => ⟨ds.length - (i + 1), by omega, rfl, hlt, p⟩, fun x H' hy => ?_⟩
    rw [drop_at hlt] at hr
    unfold compR at hr
    have key : ∀ o δ', stepR own tg elt ds[i] δ2 = .ok o δ' → RP K Tl Cv W Z F σ (compR (stepR own tg elt) (ds.drop (i + 1)) (dss ++ [o]) δ') post →
        tGt K Tl tg x (wipe σ own) H' fun σ2 H2 => wipe σ2 own = wipe σ own ∧ tYes σ2 H2 fun b H3 =>
          if b = true then tE K Tl Cv W0 elt qe σ2 H3 fun y H4 => ∃ acc, H4 D0 = some (.lst acc) ∧ acc.length < sizeLine ∧ P (i + 1) (upd H4 D0 (.lst (acc ++ [y]))) else P (i + 1) H3 := fun o δ' e k1 => by
      obtain ⟨δa, ea, ee⟩ := stepR_ok e
      obtain ⟨Z3, F3, ow3, g3, f3, st3, r3, _⟩ := new_post (H0 := H) (q := true) st2 (Gr.refl _ _) (Same.refl _) (fun _ => Same.refl _) ((it.mono g2.s).yl i H ds[i] x H' st2.z (by simp [hlt]) hy)
      have pm : ∀ v ∈ own, v < δ2.length := fun v hv => by
        have := (plain_mem pl v hv).1
        rw [st2.ln, len ew, ← st1.ln]; exact this
      obtain ⟨ow4, st4⟩ := (st3.drop f3).wiped (vs := own) pm
      rw [ew] at st4
      refine ⟨Z3, _, wipeS δ2 own, ow4, ds[i], δa, st4, r3, ea, fun σ' ow' off st5 => ?_⟩
      have ew' : wipe σ' own = wipe σ own := by
        rw [wipe_off (off.mono hin), wipe_off off_wipe]
      refine ⟨ew', ?_⟩
      dsimp only [tYes]
      rw [if_pos rfl]
      refine ⟨Z3, _, δa, ow', st5, ?_⟩
      have g13 : Gr Z1 F Z3 := g2.trans (fF _) g3
      have z3 : Z3 D0 = none := g3.n _ z2 (by rw [upd_same]; simp)
      rw [ee]
      intro v H4 ⟨Z5, F5, ow7, g5, f5, st7, ⟨B, ⟨p, vs, ev, ep, rp, eB⟩, hB⟩, _⟩
      subst ev eB
      obtain ⟨zp, fp⟩ := hB p (by simp)
      have z5 : Z5 D0 = none := g5.n _ z3 (by rw [upd_same]; simp)
      have pD : p ≠ D0 := fun z => by rw [z, upd_same] at fp; cases fp
      have gp : G p = none := by rw [upd_ne pD] at fp; exact fp
      have hp4 : H4 p = some (.lst vs) := st7.f _ _ ep
      have hD4 : H4 D0 = some (.lst (as.map V.ref)) := st7.f _ _ (f5 _ _ upd_same)
      have gas : ∀ a ∈ as, G a ≠ none := fun a m => by
        obtain ⟨vs', e⟩ := rw'.mem a m
        rw [e]; simp
      have g15 : Gr Z1 F Z5 := g13.trans (fF _) g5
      have pA : p ∉ as := fun m => gas p m gp
      -- the frame with the new row
      have st8 : StR K Tl Z5 (upd (upd G p (.lst vs)) D0 (.lst (as.map V.ref))) δ' σ' H4 ow7 := by
        refine st7.drop fun a u e => ?_
        by_cases c : a = D0
        · subst c; rw [upd_same] at e; cases e; exact f5 _ _ upd_same
        · rw [upd_ne c] at e
          by_cases d : a = p
          · subst d; rw [upd_same] at e; cases e; exact ep
          · rw [upd_ne d] at e
            exact f5 _ _ (by rw [upd_ne c]; exact e)
      refine ⟨as.map V.ref, hD4, by rw [List.length_map]; omega, dss ++ [o], as ++ [p], Z5, upd G p (.lst vs), ow7, δ', σ', ew', g15, z5, fG.trans (same_upd gp), by rw [upd_ne (Ne.symm pD)]; exact gD, fun a m => ?_, ?_, ?_, ?_, by simp; omega, k1⟩
      · rcases List.mem_append.mp m with m | m
        · refine ⟨?_, (hz a m).2⟩
          have c : a ≠ D0 := fun z => by
            rw [z] at m
            exact (List.nodup_cons.mp nd).1 m
          have : upd G D0 (.lst (as.map V.ref)) a ≠ none := by rw [upd_ne c]; exact gas a m
          exact g5.n _ (g3.n _ (hz a m).1 this) this
        · cases List.mem_singleton.mp m
          exact ⟨zp, fG.free gp⟩
      · rw [← List.cons_append]
        refine List.nodup_append.mpr ⟨nd, by simp, fun a ha b hb => ?_⟩
        cases List.mem_singleton.mp hb
        rcases List.mem_cons.mp ha with rfl | ha
        · exact Ne.symm pD
        · exact fun z => pA (z ▸ ha)
      · refine rows_app (rw'.mono (g3.s.trans g5.s) fun a m u e => ?_) upd_same rp
        rw [upd_ne (fun z : a = p => pA (z ▸ m))]; exact e
      · have := st8.wrF (o' := .lst ((as ++ [p]).map V.ref)) z5 rfl rfl
        rw [List.map_append] at this ⊢
        exact this
    cases e : stepR own tg elt ds[i] δ2 with
    | ok o δ' =>
      rw [e] at hr
      exact key o δ' e hr
    | exc c δ' => rw [e] at hr; exact hr.elim
    | stuck => rw [e] at hr; exact hr.elim
  · have e : i = ds.length := by omega
    subst e
    rw [List.drop_eq_nil_of_le (Nat.le_refl _)] at hr
    exact .inl ⟨it.st _ H (g2.s.trans st2.z) (Nat.le_refl _), fin dss δ2 Z2 _ H G as hr g2 z2 n3 fG hz nd rw' (st1.back pl st2 g2.s ⟨(len ew).symm, fun j hj => by
      have := congrArg (fun l : L2.St => l[j]?) ew
      rw [wipe_at hj, wipe_at hj] at this
      exact this.symm⟩)⟩
variable {elt tx ix : Expr} {ifs : List Expr} {scope : Scope} {own : List Nat} {tg : Tg} {evi : M (List D)} {evc : M Bool} {eve : M RV} {qe : Bool} {pos : Pos}
theorem comp_reads {K : PySem.W.Frag} {σ : L2.St} {H : Hp} {Q : VK} (hin : ∀ i ∈ tg.ix, i ∈ own) (h : tE K Tl Cv W (kComp own tg evi evc eve) false σ H Q) : tLc (tI K Tl Cv W evi) (tGt K Tl tg) (tT K Tl Cv W0 evc) (tE K Tl Cv W0 eve qe) own σ H Q := by
  obtain ⟨Z, F, δ, ow, st, h⟩ := h
  refine ⟨Z, F, δ, ow, st, h.bind.imp fun ds δ1 h1 J H1 Z1 ow1 g1 st1 it D0 hD => ?_⟩
  by_cases hc : (plainS δ1 own && okLen ds.length) = true
  · rw [if_pos hc] at h1
    rw [Bool.and_eq_true] at hc
    refine comp_turns (Qd := fun H => Q (.ref D0) H) hin st1 it hc.1 (okLen_le hc.2) hD h1.bind fun ys δ' Z2 ow2 H vs hp g2 z2 fD st2 r => ?_
    exact hp (.ref D0) H ⟨Z2, _, ow2, g1.trans (Same.refl _) g2, same_upd fD, st2, ⟨[D0], ⟨D0, vs, rfl, upd_same, r, rfl⟩, fun a m => by
      cases List.mem_singleton.mp m
      exact ⟨z2, fD⟩⟩, fun e => by cases e⟩
  · rw [if_neg hc] at h1
    exact h1.elim
theorem compR_reads {K : PySem.W.Frag} {σ : L2.St} {H : Hp} {Q : VK} (hin : ∀ i ∈ tg.ix, i ∈ own) (h : tE K Tl Cv W (kCompR own tg evi eve) false σ H Q) : tLc (tI K Tl Cv W evi) (tGt K Tl tg) tYes (tE K Tl Cv W0 eve qe) own σ H Q := by
  obtain ⟨Z, F, δ, ow, st, h⟩ := h
  refine ⟨Z, F, δ, ow, st, h.bind.imp fun ds δ1 h1 J H1 Z1 ow1 g1 st1 it D0 hD => ?_⟩
  by_cases hc : (plainS δ1 own && okLen ds.length) = true
  · rw [if_pos hc] at h1
    rw [Bool.and_eq_true] at hc
    refine compR_turns (Qd := fun H => Q (.ref D0) H) hin st1 it hc.1 (okLen_le hc.2) hD h1.bind fun dss δ' Z2 ow2 H G as hp g2 z2 fD fG hz nd rr st2 => ?_
    have gD : ∀ a ∈ as, a ≠ D0 := fun a m z => (List.nodup_cons.mp nd).1 (z ▸ m)
    refine hp (.ref D0) H ⟨Z2, _, ow2, g1.trans (Same.refl _) g2, fun a u e => ?_, st2, ⟨D0 :: as, ⟨D0, as, rfl, upd_same, rr.mono (Same.refl _) fun a m o e => by rw [upd_ne (gD a m)]; exact e, rfl, nd⟩, fun a m => ?_⟩, fun e => by cases e⟩
    · rw [upd_ne (fun z : a = D0 => by rw [z, fD] at e; cases e)]
      exact fG _ _ e
    · rcases List.mem_cons.mp m with rfl | m
      · exact ⟨z2, fD⟩
      · exact hz a m
  · rw [if_neg hc] at h1
    exact h1.elim
theorem pe_kComp (ck : Cok S Tl Cv n sc W X) (hin : ∀ i ∈ tg.ix, i ∈ own) (hb : blkC S.N sc scope (ownL S.N own) = true) (hi : PI X tx ix (tI X.K Tl Cv W evi)) (hs : ∀ x, foldedSetIterable ix X.env x = pure x)
    (hg : ∀ s H C cl fp, StoT (X.blk s H scope (compEnvC scope cl C X.env) fp) tg tx) (ht : ∀ s H C cl fp, PTs (X.blk s H scope (compEnvC scope cl C X.env) fp) ifs (tT X.K Tl Cv W0 evc))
    (he : ∀ s H C cl fp, PE (X.blk s H scope (compEnvC scope cl C X.env) fp) elt (tE X.K Tl Cv W0 eve qe)) : PE X (.ListComp elt [⟨tx, ix, ifs, 0⟩] scope pos) (tE X.K Tl Cv W (kComp own tg evi evc eve) false) := by
  have hb' : blkC X.N X.env.scope scope (ownL S.N own) = true := by rw [ck.N, ck.sc]; exact hb
  refine PE.imp (pe_lc (g := tGt X.K Tl tg) ck.calm (by rw [ck.N]; exact ck.nd) hi (blkOk_by hb') (fun s H C cl fp => StoT.pg (X := X.blk s H scope (compEnvC scope cl C X.env) fp) (Tl := Tl) ck.calm (hg s H C cl fp)) ht he hs) fun σ H Q h => ?_
  rw [ownL_ix]
  exact comp_reads hin h
theorem pe_kCompR (ck : Cok S Tl Cv n sc W X) (hin : ∀ i ∈ tg.ix, i ∈ own) (hb : blkC S.N sc scope (ownL S.N own) = true) (hi : PI X tx ix (tI X.K Tl Cv W evi)) (hs : ∀ x, foldedSetIterable ix X.env x = pure x)
    (hg : ∀ s H C cl fp, StoT (X.blk s H scope (compEnvC scope cl C X.env) fp) tg tx)
    (he : ∀ s H C cl fp, PE (X.blk s H scope (compEnvC scope cl C X.env) fp) elt (tE X.K Tl Cv W0 eve qe)) : PE X (.ListComp elt [⟨tx, ix, [], 0⟩] scope pos) (tE X.K Tl Cv W (kCompR own tg evi eve) false) := by
  have hb' : blkC X.N X.env.scope scope (ownL S.N own) = true := by rw [ck.N, ck.sc]; exact hb
  refine PE.imp (pe_lc (g := tGt X.K Tl tg) ck.calm (by rw [ck.N]; exact ck.nd) hi (blkOk_by hb') (fun s H C cl fp => StoT.pg (X := X.blk s H scope (compEnvC scope cl C X.env) fp) (Tl := Tl) ck.calm (hg s H C cl fp)) (fun _ _ _ _ _ => pts_nil) he hs) fun σ H Q h => ?_
  rw [ownL_ix]
  exact compR_reads hin h
end
end Ev

set_option Elab.async false
set_option linter.all false
set_option maxRecDepth 100000
set_option maxHeartbeats 4000000
/-! list(zip(xs, ys)), two tuples. -/
namespace Ev
open PySem PySem.Spec PyProof.Rows L2
theorem zl_no_len : typeLookup (.type "zip") "__len__" = pure none := am_miss_of_fast (by decide +kernel)
theorem zl_no_hint : typeLookup (.type "zip") "__length_hint__" = pure none := am_miss_of_fast (by decide +kernel)
section
variable {prog : Program} {w : World} {A : Around} {E : Value → Shared → Prop} {s : Shared}
theorem zl_next_item_held {z TI TO T i1 i2 l1 l2 : Addr} {f : Bool} {oT : Obj} {k1 k2 : Nat} {xs ys : Array Value} {x y : Value} {Q : Value → Shared → Prop} (D : ZipApart z TI TO i1 i2 l1 l2)
    (hz : IsZipHeld s.heap z TI TO T f) (hT : s.heap.get? T = some oT) (hTI : IsPair s.heap TI (.ref i1) (.ref i2))
    (h1 : s.heap.IsTupleIter i1 l1 k1) (h2 : s.heap.IsTupleIter i2 l2 k2) (hl1 : s.heap.IsTuple l1 xs) (hl2 : s.heap.IsTuple l2 ys) (hx : xs[k1]? = some x) (hy : ys[k2]? = some y)
    (hQ : ∀ h', IsZipHeld h' z TI TO T true → h'.IsTupleIter i1 l1 (k1 + 1) → h'.IsTupleIter i2 l2 (k2 + 1) → IsPair h' s.heap.objs.size x y → h'.objs.size = s.heap.objs.size + 1 →
      (∀ c o, c ≠ z → c ≠ i1 → c ≠ i2 → s.heap.get? c = some o → h'.get? c = some o) → Q (.ref s.heap.objs.size) { s with heap := h' }) :
    wpAny (model prog w) A (Builtin.«zip.__next__» ⟨[.ref z], []⟩) (fun fin s' => ∃ v, fin = .done (.ret v) ∧ Q v s') E s := by
  show wpAny _ _ (field (.ref z) 2 >>= _) _ _ _
  refine wpAny_bind (wpAny_field hz rfl (x := .bool false) rfl ?_)
  show wpAny _ _ (field (.ref z) 3 >>= _) _ _ _
  refine wpAny_bind (wpAny_field hz rfl (x := .ref TI) rfl ?_)
  refine wpAny_bind (wpAny_seqItems hTI rfl ?_)
  show wpAny _ _ (Builtin.SmallTypes.ownedTupleIsFree (.ref z) >>= _) _ _ _
  refine wpAny_bind (wpAny_tupleHeld_zip hz hT fun h₁ hz₁ hs₁ => ?_)
  simp only [Bool.false_eq_true, if_false]
  refine wpAny_bind ?_
  rw [← Array.forIn_toList]
  simp only [List.forIn_cons, List.forIn_nil]
  refine wpAny_bind (wpAny_bind (wpAny_holding ?_))
  show wpAny _ _ (Builtin.SmallTypes.nextOf (.ref i1) >>= _) _ _ _
  refine wpAny_bind (RZ.nextOf_tuple_item (s := { s with heap := h₁ }) (h1.extBut hs₁.extBut D.i1z) (hl1.extBut hs₁.extBut D.l1z) hx fun h₂ h1₂ hs₂ => wpAny_pure ?_)
  refine wpAny_pure ?_
  refine wpAny_bind (wpAny_bind (wpAny_holding ?_))
  show wpAny _ _ (Builtin.SmallTypes.nextOf (.ref i2) >>= _) _ _ _
  refine wpAny_bind (RZ.nextOf_tuple_item (s := { s with heap := h₂ }) ((h2.extBut hs₁.extBut D.i2z).extBut hs₂.extBut D.i12.symm) ((hl2.extBut hs₁.extBut D.l2z).extBut hs₂.extBut D.l2i1) hy fun h₃ h2₃ hs₃ => wpAny_pure ?_)
  refine wpAny_pure (wpAny_pure ?_)
  show wpAny _ _ (newTuple [x, y] >>= _) _ _ _
  refine wpAny_bind (wpAny_newTuple ?_)
  have hsz : h₃.objs.size = s.heap.objs.size := by rw [hs₃.1, hs₂.1, hs₁.1]
  have hz₃ : IsZipHeld h₃ z TI TO T true := hs₃.extBut _ _ D.i2z.symm (hs₂.extBut _ _ D.i1z.symm hz₁)
  have hk : ∀ c o, c ≠ z → c ≠ i1 → c ≠ i2 → s.heap.get? c = some o → h₃.get? c = some o := fun c o c1 c2 c3 e => hs₃.extBut _ _ c3 (hs₂.extBut _ _ c2 (hs₁.extBut _ _ c1 e))
  have h1₃ : h₃.IsTupleIter i1 l1 (k1 + 1) := h1₂.extBut hs₃.extBut D.i12
  refine wpAny_pure ⟨_, rfl, ?_⟩
  show Q (.ref h₃.objs.size) _
  have hp : IsPair (h₃.push { cls := .type "tuple", data := .seq #[x, y] }) h₃.objs.size x y := Heap.get?_push_size _ rfl
  have hz4 : (h₃.push { cls := .type "tuple", data := .seq #[x, y] }).objs.size = h₃.objs.size + 1 := Heap.size_push ..
  rw [hsz] at hp hz4 ⊢
  exact hQ _ (Heap.get?_push_of_some _ hz₃) (h1₃.at fun o e => Heap.get?_push_of_some _ e) (h2₃.at fun o e => Heap.get?_push_of_some _ e) hp hz4 fun c o c1 c2 c3 e => Heap.get?_push_of_some _ (hk c o c1 c2 c3 e)
theorem zl_next_end_held {z TI TO T i1 i2 l1 l2 : Addr} {f : Bool} {oT : Obj} {k1 k2 : Nat} {xs ys : Array Value} {Q : Fin → Shared → Prop} (hh : A.handled = none) (D : ZipApart z TI TO i1 i2 l1 l2)
    (hz : IsZipHeld s.heap z TI TO T f) (hT : s.heap.get? T = some oT) (hTI : IsPair s.heap TI (.ref i1) (.ref i2))
    (h1 : s.heap.IsTupleIter i1 l1 k1) (h2 : s.heap.IsTupleIter i2 l2 k2) (hl1 : s.heap.IsTuple l1 xs) (hl2 : s.heap.IsTuple l2 ys) (hend : xs[k1]? = none ∨ ys[k2]? = none)
    (hE : ∀ h' e, (∀ c o, c ≠ z → c ≠ i1 → c ≠ i2 → s.heap.get? c = some o → h'.get? c = some o) → (∃ o, h'.get? e = some o ∧ o.cls = .type "StopIteration") → E (.ref e) { s with heap := h' }) :
    wpAny (model prog w) A (Builtin.«zip.__next__» ⟨[.ref z], []⟩) Q E s := by
  show wpAny _ _ (field (.ref z) 2 >>= _) _ _ _
  refine wpAny_bind (wpAny_field hz rfl (x := .bool false) rfl ?_)
  show wpAny _ _ (field (.ref z) 3 >>= _) _ _ _
  refine wpAny_bind (wpAny_field hz rfl (x := .ref TI) rfl ?_)
  refine wpAny_bind (wpAny_seqItems hTI rfl ?_)
  show wpAny _ _ (Builtin.SmallTypes.ownedTupleIsFree (.ref z) >>= _) _ _ _
  refine wpAny_bind (wpAny_tupleHeld_zip hz hT fun h₁ hz₁ hs₁ => ?_)
  simp only [Bool.false_eq_true, if_false]
  refine wpAny_bind ?_
  rw [← Array.forIn_toList]
  simp only [List.forIn_cons, List.forIn_nil]
  refine wpAny_bind (wpAny_bind (wpAny_holding ?_))
  show wpAny _ _ (Builtin.SmallTypes.nextOf (.ref i1) >>= _) _ _ _
  cases hx : xs[k1]? with
  | none =>
    refine wpAny_bind (RZ.nextOf_tuple_end (s := { s with heap := h₁ }) hh (h1.extBut hs₁.extBut D.i1z) (hl1.extBut hs₁.extBut D.l1z) hx fun h₂ e hs₂ he => ?_)
    exact hE h₂ e (fun c o c1 c2 _ x => hs₂ _ _ c2 (hs₁.extBut _ _ c1 x)) he
  | some x =>
    have hy : ys[k2]? = none := by rcases hend with h | h; rw [hx] at h; cases h; exact h
    refine wpAny_bind (RZ.nextOf_tuple_item (s := { s with heap := h₁ }) (h1.extBut hs₁.extBut D.i1z) (hl1.extBut hs₁.extBut D.l1z) hx fun h₂ h1₂ hs₂ => wpAny_pure ?_)
    refine wpAny_pure ?_
    refine wpAny_bind (wpAny_bind (wpAny_holding ?_))
    show wpAny _ _ (Builtin.SmallTypes.nextOf (.ref i2) >>= _) _ _ _
    refine wpAny_bind (RZ.nextOf_tuple_end (s := { s with heap := h₂ }) hh ((h2.extBut hs₁.extBut D.i2z).extBut hs₂.extBut D.i12.symm) ((hl2.extBut hs₁.extBut D.l2z).extBut hs₂.extBut D.l2i1) hy fun h₃ e hs₃ he => ?_)
    exact hE h₃ e (fun c o c1 c2 c3 x => hs₃ _ _ c3 (hs₂.extBut _ _ c2 (hs₁.extBut _ _ c1 x))) he
theorem zl_item_held {z TI TO T i1 i2 l1 l2 : Addr} {f : Bool} {oT : Obj} {k1 k2 : Nat} {xs ys : Array Value} {x y : Value} {Q : Option Value → Shared → Prop} (D : ZipApart z TI TO i1 i2 l1 l2)
    (hz : IsZipHeld s.heap z TI TO T f) (hT : s.heap.get? T = some oT) (hTI : IsPair s.heap TI (.ref i1) (.ref i2))
    (h1 : s.heap.IsTupleIter i1 l1 k1) (h2 : s.heap.IsTupleIter i2 l2 k2) (hl1 : s.heap.IsTuple l1 xs) (hl2 : s.heap.IsTuple l2 ys) (hx : xs[k1]? = some x) (hy : ys[k2]? = some y)
    (hQ : ∀ h', IsZipHeld h' z TI TO T true → h'.IsTupleIter i1 l1 (k1 + 1) → h'.IsTupleIter i2 l2 (k2 + 1) → IsPair h' s.heap.objs.size x y → h'.objs.size = s.heap.objs.size + 1 →
      (∀ c o, c ≠ z → c ≠ i1 → c ≠ i2 → s.heap.get? c = some o → h'.get? c = some o) → Q (some (.ref s.heap.objs.size)) { s with heap := h' }) :
    wpAny (model prog w) A (pyNext (.ref z)) Q E s := by
  have hTy : s.TypeIs (.ref z) "zip" := ⟨_, hz, rfl⟩
  unfold pyNext
  exact wpAny_bind (wpAny_attempt (wpAny_callSpecial?_slot (name := Str.ofString "__next__") hTy PySem.F.slot_zip_next
    (wpAny_call_entry PySem.F.slot_zip_next hTy PySem.F.entry_zip_next
      (zl_next_item_held D hz hT hTI h1 h2 hl1 hl2 hx hy fun h' a1 a3 a4 a5 a6 a7 => wpAny_pure (hQ h' a1 a3 a4 a5 a6 a7)) (PySem.F.args_zip_next_1 _))))
theorem zl_end_held {z TI TO T i1 i2 l1 l2 : Addr} {f : Bool} {oT : Obj} {k1 k2 : Nat} {xs ys : Array Value} {Q : Option Value → Shared → Prop} (hh : A.handled = none) (D : ZipApart z TI TO i1 i2 l1 l2)
    (hz : IsZipHeld s.heap z TI TO T f) (hT : s.heap.get? T = some oT) (hTI : IsPair s.heap TI (.ref i1) (.ref i2))
    (h1 : s.heap.IsTupleIter i1 l1 k1) (h2 : s.heap.IsTupleIter i2 l2 k2) (hl1 : s.heap.IsTuple l1 xs) (hl2 : s.heap.IsTuple l2 ys) (hend : xs[k1]? = none ∨ ys[k2]? = none)
    (hQ : ∀ h', (∀ c o, c ≠ z → c ≠ i1 → c ≠ i2 → s.heap.get? c = some o → h'.get? c = some o) → Q none { s with heap := h' }) :
    wpAny (model prog w) A (pyNext (.ref z)) Q E s := by
  have hTy : s.TypeIs (.ref z) "zip" := ⟨_, hz, rfl⟩
  unfold pyNext
  refine wpAny_bind (wpAny_attempt (wpAny_callSpecial?_slot (name := Str.ofString "__next__") hTy PySem.F.slot_zip_next
    (wpAny_call_entry PySem.F.slot_zip_next hTy PySem.F.entry_zip_next (zl_next_end_held hh D hz hT hTI h1 h2 hl1 hl2 hend fun h' e hk he => ?_) (PySem.F.args_zip_next_1 _))))
  obtain ⟨o, ho, hc⟩ := he
  refine wpAny_bind (wpAny_isInstance (T := "StopIteration") (b := true) ⟨o, ho, hc⟩ isSubtype_stop ?_)
  exact wpAny_pure (hQ _ hk)
end
/-! ### the zip between two turns -/
structure ZlSt (h : Heap) (z TI TO i1 i2 l1 l2 S : Addr) (i : Nat) : Prop where
  ti : IsPair h TI (.ref i1) (.ref i2)
  h1 : h.IsTupleIter i1 l1 i
  h2 : h.IsTupleIter i2 l2 i
  hz : (IsZip h z TI TO .none ∧ ∃ a b, IsPair h TO a b) ∨ ∃ (T : Addr) (f : Bool) (oT : Obj), IsZipHeld h z TI TO T f ∧ h.get? T = some oT ∧ T ≠ z ∧ T ≠ i1 ∧ T ≠ i2 ∧ T ≠ S
structure ZlLow (z TI TO i1 i2 l1 l2 S : Addr) : Prop where
  z : z < S
  ti : TI < S
  to : TO < S
  i1 : i1 < S
  i2 : i2 < S
  l1 : l1 < S
  l2 : l2 < S
theorem ZlSt.keep {h h' : Heap} {z TI TO i1 i2 l1 l2 S : Addr} {i : Nat} (x : ZlSt h z TI TO i1 i2 l1 l2 S i) (L : ZlLow z TI TO i1 i2 l1 l2 S) (hk : ∀ b o, b ≠ S → h.get? b = some o → h'.get? b = some o) : ZlSt h' z TI TO i1 i2 l1 l2 S i := by
  refine ⟨hk _ _ (Nat.ne_of_lt L.ti) x.ti, x.h1.at fun o e => hk _ o (Nat.ne_of_lt L.i1) e, x.h2.at fun o e => hk _ o (Nat.ne_of_lt L.i2) e, ?_⟩
  rcases x.hz with ⟨hz, a, b, hTO⟩ | ⟨T, f, oT, hz, hT, r1, r2, r3, r4⟩
  · exact .inl ⟨hk _ _ (Nat.ne_of_lt L.z) hz, a, b, hk _ _ (Nat.ne_of_lt L.to) hTO⟩
  · exact .inr ⟨T, f, oT, hk _ _ (Nat.ne_of_lt L.z) hz, hk _ _ r4 hT, r1, r2, r3, r4⟩
/-- the pairs made -/
structure ZlG (xs ys : Array Value) (lo : Addr) (h : Heap) (as : List Addr) : Prop where
  rise : as.Pairwise (· < ·)
  above : ∀ a ∈ as, lo < a
  pairs : ∀ (j : Nat) (a : Addr), as[j]? = some a → ∃ x y, xs[j]? = some x ∧ ys[j]? = some y ∧ h.get? a = some { cls := .type "tuple", data := .seq #[x, y] }
theorem ZlG.there {xs ys : Array Value} {lo : Addr} {h : Heap} {as : List Addr} (g : ZlG xs ys lo h as) {a : Addr} (ha : a ∈ as) : a < h.objs.size := by
  obtain ⟨j, hj⟩ := List.mem_iff_getElem?.mp ha
  obtain ⟨_, _, _, _, e⟩ := g.pairs j a hj
  exact Heap.lt_size e
section
variable {prog : Program} {w : World} {A : Around} {E : Value → Shared → Prop} {s : Shared} {R : Result → Shared → Prop} {xs ys : Array Value} {z TI TO i1 i2 l1 l2 S : Addr}
theorem zl_item {i : Nat} {x y : Value} {Q : Option Value → Shared → Prop} (D : ZipApart z TI TO i1 i2 l1 l2) (L : ZlLow z TI TO i1 i2 l1 l2 S) (st : ZlSt s.heap z TI TO i1 i2 l1 l2 S i) (hS : S < s.heap.objs.size)
    (hl1 : s.heap.IsTuple l1 xs) (hl2 : s.heap.IsTuple l2 ys) (hx : xs[i]? = some x) (hy : ys[i]? = some y)
    (hQ : ∀ h', ZlSt h' z TI TO i1 i2 l1 l2 S (i + 1) → IsPair h' s.heap.objs.size x y → h'.objs.size = s.heap.objs.size + 1 →
      (∀ c o, c ≠ z → c ≠ TO → c ≠ i1 → c ≠ i2 → s.heap.get? c = some o → h'.get? c = some o) → Q (some (.ref s.heap.objs.size)) { s with heap := h' }) :
    wpAny (model prog w) A (pyNext (.ref z)) Q E s := by
  have lt : ∀ {c o}, s.heap.get? c = some o → s.heap.objs.size ≠ c := fun e => Nat.ne_of_gt (Heap.lt_size e)
  have n1 : s.heap.objs.size ≠ i1 := let ⟨_, e, _⟩ := st.h1; lt e
  have n2 : s.heap.objs.size ≠ i2 := let ⟨_, e, _⟩ := st.h2; lt e
  rcases st.hz with ⟨hz, a, b, hTO⟩ | ⟨T, f, oT, hz, hT, r1, r2, r3, r4⟩
  · refine RZ.pyNext_zipT_item D hz st.ti hTO st.h1 st.h2 hl1 hl2 hx hy fun h' a1 a2 a3 a4 a5 a6 hk => ?_
    exact hQ h' ⟨hk _ _ D.TIz D.TITO D.TIi1 D.TIi2 st.ti, a3, a4, .inr ⟨s.heap.objs.size, false, _, a1, a5, lt hz, n1, n2, Nat.ne_of_gt hS⟩⟩ a5 a6 hk
  · refine zl_item_held D hz hT st.ti st.h1 st.h2 hl1 hl2 hx hy fun h' a1 a3 a4 a5 a6 hk => ?_
    exact hQ h' ⟨hk _ _ D.TIz D.TIi1 D.TIi2 st.ti, a3, a4, .inr ⟨T, true, oT, a1, hk _ _ r1 r2 r3 hT, r1, r2, r3, r4⟩⟩ a5 a6 fun c o c1 _ c3 c4 e => hk c o c1 c3 c4 e
theorem zl_done {i : Nat} {Q : Option Value → Shared → Prop} (hh : A.handled = none) (D : ZipApart z TI TO i1 i2 l1 l2) (st : ZlSt s.heap z TI TO i1 i2 l1 l2 S i)
    (hl1 : s.heap.IsTuple l1 xs) (hl2 : s.heap.IsTuple l2 ys) (hend : xs[i]? = none ∨ ys[i]? = none)
    (hQ : ∀ h', (∀ c o, c ≠ z → c ≠ TO → c ≠ i1 → c ≠ i2 → s.heap.get? c = some o → h'.get? c = some o) → Q none { s with heap := h' }) :
    wpAny (model prog w) A (pyNext (.ref z)) Q E s := by
  rcases st.hz with ⟨hz, a, b, hTO⟩ | ⟨T, f, oT, hz, hT, r1, r2, r3, r4⟩
  · exact RZ.pyNext_zipT_end hh D hz st.ti hTO st.h1 st.h2 hl1 hl2 hend hQ
  · exact zl_end_held hh D hz hT st.ti st.h1 st.h2 hl1 hl2 hend fun h' hk => hQ h' fun c o c1 _ c3 c4 e => hk c o c1 c3 c4 e
theorem zl_loop (hh : A.handled = none) (D : ZipApart z TI TO i1 i2 l1 l2) (L : ZlLow z TI TO i1 i2 l1 l2 S) (hn : min xs.size ys.size ≤ sizeLine) (res : Value) {h₁ : Heap}
    (hR : ∀ h' tk acc c as, (∀ b o, b ≠ S → b ≠ z → b ≠ TO → b ≠ i1 → b ≠ i2 → h₁.get? b = some o → h'.get? b = some o) → h'.get? S = some { cls := .type "list", dict := none, data := .seq acc c, slots := #[] } → as.length = min xs.size ys.size → ZlG xs ys S h' as →
      acc.toList = as.map Value.ref → R (.ok (.ret res)) { s with heap := h', toks := tk }) :
    ∀ (k i : Nat) (h : Heap) (tk c : Nat) (acc : Array Value) (as : List Addr), min xs.size ys.size - i = k → i ≤ min xs.size ys.size → ZlSt h z TI TO i1 i2 l1 l2 S i → h.IsTuple l1 xs → h.IsTuple l2 ys → (∀ b o, b ≠ S → b ≠ z → b ≠ TO → b ≠ i1 → b ≠ i2 → h₁.get? b = some o → h.get? b = some o) →
      h.get? S = some { cls := .type "list", dict := none, data := .seq acc c, slots := #[] } → acc.toList = as.map Value.ref → as.length = i → ZlG xs ys S h as →
      codeAny (model prog w) A (.builtin "list.extend.loop" ⟨[.ref S, .ref z, res], []⟩) R { s with heap := h, toks := tk } := by
  have off : ∀ {b : Addr}, S < b → b ≠ z ∧ b ≠ TO ∧ b ≠ i1 ∧ b ≠ i2 := fun {b} hb => ⟨Nat.ne_of_gt (Nat.lt_trans L.z hb), Nat.ne_of_gt (Nat.lt_trans L.to hb), Nat.ne_of_gt (Nat.lt_trans L.i1 hb), Nat.ne_of_gt (Nat.lt_trans L.i2 hb)⟩
  have sz : S ≠ z := Nat.ne_of_gt L.z
  have sto : S ≠ TO := Nat.ne_of_gt L.to
  have s1 : S ≠ i1 := Nat.ne_of_gt L.i1
  have s2 : S ≠ i2 := Nat.ne_of_gt L.i2
  intro k
  induction k with
  | zero =>
    intro i h tk c acc as hk hi hst hl1 hl2 hkeep hS hacc hal hG
    refine codeAny_builtin PySem.F.entry_extend_loop ?_
    rw [Around.under_plainId PySem.F.plain_extend_loop _]
    show wpAny _ A.in1 (pyNext (.ref z) >>= _) _ _ _
    have hend : xs[i]? = none ∨ ys[i]? = none := by
      rcases Nat.le_total xs.size ys.size with q | q
      · exact .inl (Array.getElem?_eq_none (by omega))
      · exact .inr (Array.getElem?_eq_none (by omega))
    refine wpAny_bind (zl_done (s := { s with heap := h, toks := tk }) (A := A.in1) hh D hst hl1 hl2 hend fun h' he => ?_)
    refine wpAny_pure (hR h' tk acc c as (fun b o h1 h2 h3 h4 h5 e => he b o h2 h3 h4 h5 (hkeep b o h1 h2 h3 h4 h5 e)) (he S _ sz sto s1 s2 hS) (by omega) ⟨hG.rise, hG.above, fun j a hj => ?_⟩ hacc)
    obtain ⟨x, y, e1, e2, e3⟩ := hG.pairs j a hj
    obtain ⟨o1, o2, o3, o4⟩ := off (hG.above a (List.mem_of_getElem? hj))
    exact ⟨x, y, e1, e2, he a _ o1 o2 o3 o4 e3⟩
  | succ k ih =>
    intro i h tk c acc as hk hi hst hl1 hl2 hkeep hS hacc hal hG
    have hlt1 : i < xs.size := by omega
    have hlt2 : i < ys.size := by omega
    have hx := Array.getElem?_eq_getElem hlt1
    have hy := Array.getElem?_eq_getElem hlt2
    have hsz : acc.size = i := by rw [← Array.length_toList, hacc, List.length_map, hal]
    refine codeAny_builtin PySem.F.entry_extend_loop ?_
    rw [Around.under_plainId PySem.F.plain_extend_loop _]
    show wpAny _ A.in1 (pyNext (.ref z) >>= _) _ _ _
    have hSl : S < h.objs.size := Heap.lt_size hS
    refine wpAny_bind (zl_item (s := { s with heap := h, toks := tk }) (S := S) D L hst hSl hl1 hl2 hx hy fun h' hst' ht hz hkp => ?_)
    dsimp only at ht hz hkp ⊢
    have hS' := hkp S _ sz sto s1 s2 hS
    have up : ∀ b o, b ≠ S → h'.get? b = some o → (h'.update S (Obj.mapSeq (·.push (Value.ref h.objs.size)))).get? b = some o := fun b o hb e => (Heap.get?_update_other _ _ (Ne.symm hb)).trans e
    have tup : ∀ {l : Addr} {zs : Array Value}, l < S → l ≠ z → l ≠ TO → l ≠ i1 → l ≠ i2 → h.IsTuple l zs → (h'.update S (Obj.mapSeq (·.push (Value.ref h.objs.size)))).IsTuple l zs := fun q0 q1 q2 q3 q4 t => t.at fun o e => up _ o (Nat.ne_of_lt q0) (hkp _ o q1 q2 q3 q4 e)
    show wpAny _ A.in1 (updateSeq S (·.push (Value.ref h.objs.size)) >>= _) _ _ _
    refine wpAny_bind ?_
    refine wpAny_updateSeq hS' rfl (wpAny_pure ⟨plainId_quiet PySem.F.plain_extend_loop _, ih (i + 1) _ tk _ (acc.push (Value.ref h.objs.size)) (as ++ [h.objs.size]) (by omega) (by omega) (hst'.keep L up) (tup L.l1 D.l1z D.l1TO D.l1i1 D.l1i2 hl1) (tup L.l2 D.l2z D.l2TO D.l2i1 D.l2i2 hl2)
      (fun b o h1 h2 h3 h4 h5 e => up b o h1 (hkp b o h2 h3 h4 h5 (hkeep b o h1 h2 h3 h4 h5 e))) (Heap.get?_update_self _ hS' rfl) (by rw [Array.toList_push, hacc, List.map_append]; rfl) (by rw [List.length_append, hal]; rfl) ⟨?_, ?_, ?_⟩⟩) (by rw [hsz]; omega) (by show (acc.push (Value.ref h.objs.size)).size ≤ sizeLine + 1; rw [Array.size_push, hsz]; omega)
    · refine List.pairwise_append.mpr ⟨hG.rise, List.pairwise_singleton _ _, fun a ha b hb => ?_⟩
      rw [List.mem_singleton.mp hb]
      exact hG.there ha
    · intro a ha
      rcases List.mem_append.mp ha with ha | ha
      · exact hG.above a ha
      · rw [List.mem_singleton.mp ha]; exact hSl
    · intro j b hj
      rcases Nat.lt_trichotomy j as.length with h1 | h1 | h1
      · rw [List.getElem?_append_left h1] at hj
        obtain ⟨x', y', e1, e2, e3⟩ := hG.pairs j b hj
        have hb := hG.above b (List.mem_of_getElem? hj)
        obtain ⟨o1, o2, o3, o4⟩ := off hb
        exact ⟨x', y', e1, e2, up b _ (Nat.ne_of_gt hb) (hkp b _ o1 o2 o3 o4 e3)⟩
      · subst h1
        have hb : h.objs.size = b := by simpa using hj
        subst hb
        exact ⟨_, _, by rw [hal]; exact hx, by rw [hal]; exact hy, up _ _ (Nat.ne_of_gt hSl) ht⟩
      · have hnone : (as ++ [h.objs.size])[j]? = none := List.getElem?_eq_none (by rw [List.length_append, List.length_singleton]; omega)
        rw [hnone] at hj; cases hj
theorem zl_extend (hh : A.handled = none) (D : ZipApart z TI TO i1 i2 l1 l2) (L : ZlLow z TI TO i1 i2 l1 l2 S) (hst : ZlSt s.heap z TI TO i1 i2 l1 l2 S 0) (hl1 : s.heap.IsTuple l1 xs) (hl2 : s.heap.IsTuple l2 ys) (res : Value) (c₀ : Nat) (hS : s.heap.get? S = some { cls := .type "list", data := .seq #[] c₀ })
    (hR : ∀ h' tk acc c as, (∀ b o, b ≠ S → b ≠ z → b ≠ TO → b ≠ i1 → b ≠ i2 → s.heap.get? b = some o → h'.get? b = some o) → h'.get? S = some { cls := .type "list", dict := none, data := .seq acc c, slots := #[] } → as.length = min xs.size ys.size → ZlG xs ys S h' as →
      acc.toList = as.map Value.ref → R (.ok (.ret res)) { s with heap := h', toks := tk }) (hn : min xs.size ys.size ≤ sizeLine) :
    wpAny (model prog w) A.in1 (Builtin.List.listExtendWith (.ref S) (.ref z) res)
      (fun fin s' => match fin with | .done f => R (.ok f) s' | .again c' => c'.quiet = true ∧ codeAny (model prog w) A c' R s') (fun e s' => R (.error e) s') s := by
  have hSz : S ≠ z := Nat.ne_of_gt L.z
  have hzip : ∃ f0, IsZip s.heap z TI TO f0 ∨ ∃ T f, IsZipHeld s.heap z TI TO T f := by
    rcases hst.hz with ⟨h, _⟩ | ⟨T, f, _, h, _⟩
    · exact ⟨_, .inl h⟩
    · exact ⟨.none, .inr ⟨T, f, h⟩⟩
  have hT : s.TypeIs (.ref z) "zip" := by
    obtain ⟨_, h | ⟨_, _, h⟩⟩ := hzip
    · exact ⟨_, h, rfl⟩
    · exact ⟨_, h, rfl⟩
  unfold Builtin.List.listExtendWith
  refine wpAny_bind (wpAny_typeOf (T := "zip") hT ?_)
  have h1 : Builtin.List.listSameRef (.ref S) (.ref z) = false := by simp [Builtin.List.listSameRef, hSz]
  have h2 : (Value.type "zip" == Value.type "list") = false := by decide
  have h3 : (Value.type "zip" == Value.type "tuple") = false := by decide
  simp only [h1, h2, h3, Bool.or_false, Bool.false_eq_true, if_false]
  refine wpAny_bind (wpAny_pyIter_slot hT PySem.F.slot_zip_iter (wpAny_call_entry PySem.F.slot_zip_iter hT PySem.F.entry_zip_iter ?_ (PySem.F.args_zip_iter_1 _)))
  show wpAny _ _ (ret (.ref z)) _ _ s
  refine wpAny_pure ⟨_, rfl, "zip", _, hT, PySem.F.slot_zip_next.lookup, ?_⟩
  refine wpAny_bind (wpAny_holding ?_)
  unfold Builtin.List.listLengthHint
  refine wpAny_bind (wpAny_specialOf hT zl_no_len ?_)
  show wpAny _ A.in1 (specialOf (Value.ref z) (Str.ofString "__length_hint__") >>= _) _ _ _
  refine wpAny_bind (wpAny_specialOf hT zl_no_hint ?_)
  refine wpAny_pure ?_
  show wpAny _ A.in1 (rule "list.extend.makes-room" >>= fun _ => Builtin.List.listTouch (.ref S) >>= fun _ =>
    again (.builtin "list.extend.loop" ⟨[.ref S, .ref z, res], []⟩)) _ _ _
  refine wpAny_bind (wpAny_rule ?_)
  refine wpAny_bind ?_
  show wpAny _ A.in1 (updateSeq S (·.push .none) >>= fun _ => updateSeq S (·.pop)) _ _ _
  refine wpAny_bind (wpAny_updateSeq hS rfl ?_)
  have hS₂ := Heap.get?_update_self (Obj.mapSeq (·.push Value.none)) hS rfl
  refine wpAny_updateSeq (hz := by seq_fits) hS₂ rfl ?_
  have hS₃ := Heap.get?_update_self (Obj.mapSeq (·.pop)) hS₂ rfl
  have oth : ∀ b o, b ≠ S → s.heap.get? b = some o → ((s.heap.update S (Obj.mapSeq (·.push Value.none))).update S (Obj.mapSeq (·.pop))).get? b = some o :=
    fun b o hb e => (Heap.get?_update_other _ _ (Ne.symm hb)).trans ((Heap.get?_update_other _ _ (Ne.symm hb)).trans e)
  refine wpAny_pure ⟨plainId_quiet PySem.F.plain_extend_loop _, ?_⟩
  exact zl_loop (s := s) (h₁ := s.heap) hh D L hn res hR (min xs.size ys.size) 0 _ s.toks _ #[] [] (Nat.sub_zero _) (Nat.zero_le _) (hst.keep L oth) (hl1.at fun o e => oth _ o (Nat.ne_of_lt L.l1) e) (hl2.at fun o e => oth _ o (Nat.ne_of_lt L.l2) e)
    (fun b o hb _ _ _ _ e => oth b o hb e) hS₃ rfl rfl ⟨List.Pairwise.nil, (fun _ ha => nomatch ha), (fun j a hj => by simp at hj)⟩
theorem zl_init (hh : A.handled = none) (D : ZipApart z TI TO i1 i2 l1 l2) (L : ZlLow z TI TO i1 i2 l1 l2 S) (hst : ZlSt s.heap z TI TO i1 i2 l1 l2 S 0) (hl1 : s.heap.IsTuple l1 xs) (hl2 : s.heap.IsTuple l2 ys) (hS : s.heap.get? S = some { cls := .type "list", data := .seq #[] })
    (hR : ∀ h' tk acc c as, (∀ b o, b ≠ S → b ≠ z → b ≠ TO → b ≠ i1 → b ≠ i2 → s.heap.get? b = some o → h'.get? b = some o) → h'.get? S = some { cls := .type "list", dict := none, data := .seq acc c, slots := #[] } → as.length = min xs.size ys.size → ZlG xs ys S h' as →
      acc.toList = as.map Value.ref → R (.ok (.ret .none)) { s with heap := h', toks := tk }) (hn : min xs.size ys.size ≤ sizeLine) :
    wpAny (model prog w) A.in1 (Builtin.«list.__init__» ⟨[.ref S, .ref z], []⟩)
      (fun fin s' => match fin with | .done f => R (.ok f) s' | .again c' => c'.quiet = true ∧ codeAny (model prog w) A c' R s') (fun e s' => R (.error e) s') s := by
  show wpAny _ _ (do let old ← Builtin.List.listItems (.ref S); Builtin.List.listUpdate (.ref S) (fun _ => #[]); letGo old.toList.reverse; Builtin.List.listExtendWith (.ref S) (.ref z) .none) _ _ s
  refine wpAny_bind ?_
  unfold Builtin.List.listItems
  refine wpAny_bind (wpAny_seqItems hS rfl (wpAny_pure ?_))
  show wpAny _ _ (updateSeq S (fun _ => #[]) >>= fun _ => letGo (#[] : Array Value).toList.reverse >>= fun _ => Builtin.List.listExtendWith (.ref S) (.ref z) .none) _ _ s
  refine wpAny_bind (wpAny_updateSeq hS rfl ?_)
  have hS₂ := Heap.get?_update_self (Obj.mapSeq (fun _ => (#[] : Array Value))) hS rfl
  have oth : ∀ b o, b ≠ S → s.heap.get? b = some o → (s.heap.update S (Obj.mapSeq (fun _ => (#[] : Array Value)))).get? b = some o :=
    fun b o hb e => (Heap.get?_update_other _ _ (Ne.symm hb)).trans e
  refine wpAny_bind (wpAny_letGo ?_)
  refine zl_extend (s := { s with heap := s.heap.update S (Obj.mapSeq (fun _ => (#[] : Array Value))) }) hh D L (hst.keep L oth) (hl1.at fun o e => oth _ o (Nat.ne_of_lt L.l1) e) (hl2.at fun o e => oth _ o (Nat.ne_of_lt L.l2) e) .none _ hS₂ (fun h' tk acc c as hk hS' hl hG hacc => ?_) hn
  exact hR h' tk acc c as (fun b o hb h2 h3 h4 h5 e => hk b o hb h2 h3 h4 h5 (oth b o hb e)) hS' hl hG hacc
/-- list(z) -/
theorem zl_call {Q : Value → Shared → Prop} (hh : A.handled = none) (D : ZipApart z TI TO i1 i2 l1 l2) (L : ZlLow z TI TO i1 i2 l1 l2 s.heap.objs.size) (hst : ZlSt s.heap z TI TO i1 i2 l1 l2 s.heap.objs.size 0) (hl1 : s.heap.IsTuple l1 xs) (hl2 : s.heap.IsTuple l2 ys) (hn : min xs.size ys.size ≤ sizeLine)
    (hQ : ∀ h' tk acc c as, (∀ b o, b ≠ z → b ≠ TO → b ≠ i1 → b ≠ i2 → s.heap.get? b = some o → h'.get? b = some o) → h'.get? s.heap.objs.size = some { cls := .type "list", dict := none, data := .seq acc c, slots := #[] } → as.length = min xs.size ys.size → ZlG xs ys s.heap.objs.size h' as →
      acc.toList = as.map Value.ref → Q (.ref s.heap.objs.size) { s with heap := h', toks := tk }) :
    wpAny (model prog w) A (call (.type "list") [.ref z]) Q E s := by
  refine callType_codes (Q₁ := fun obj s₁ => obj = .ref s.heap.objs.size ∧ s₁ = { s with heap := s.heap.push { cls := .type "list", data := .seq #[] } }) PySem.F.called_list (PySem.F.typeCall_list_1 _) PySem.F.entry_list_init
    (code_list_new _ ⟨rfl, rfl⟩) fun obj s₁ h₁ => ?_
  obtain ⟨rfl, rfl⟩ := h₁
  have hS : (s.heap.push { cls := .type "list", data := .seq #[] }).get? s.heap.objs.size = some { cls := .type "list", data := .seq #[] } := Heap.get?_push_size _ rfl
  have up : ∀ b o, s.heap.get? b = some o → (s.heap.push { cls := .type "list", data := .seq #[] }).get? b = some o := fun b o e => Heap.get?_push_of_some _ e
  refine ⟨⟨_, hS, rfl⟩, PySem.F.args_list_init_2 _ _, zl_init (A := A.in1) (s := { s with heap := s.heap.push { cls := .type "list", data := .seq #[] } }) hh D L (hst.keep L fun b o _ e => up b o e) (hl1.at fun o e => up _ o e) (hl2.at fun o e => up _ o e) hS (fun h' tk acc c as hk hS' hl hG hacc => ?_) hn⟩
  exact ⟨rfl, hQ h' tk acc c as (fun b o h2 h3 h4 h5 e => hk b o (Nat.ne_of_lt (Heap.lt_size e)) h2 h3 h4 h5 (up b o e)) hS' hl hG hacc⟩
end
end Ev

set_option Elab.async false
set_option linter.all false
set_option maxRecDepth 100000
set_option maxHeartbeats 4000000
/-! list(zip(xs, ys)) as a rule. -/
namespace Ev
open PySem PySem.Spec PyProof.Rows L2
/-- the pairs tracked at their addresses -/
def putP : Hp → List Addr → List (V × V) → Hp
  | H, a :: as, p :: ps => putP (upd H a (.tup [p.1, p.2])) as ps
  | H, _, _ => H
theorem putP_off {b : Addr} : ∀ (as : List Addr) (ps : List (V × V)) (H : Hp), b ∉ as → putP H as ps b = H b
  | [], _, _, _ => rfl
  | _ :: _, [], _, _ => rfl
  | a :: as, p :: ps, H, h => by
    show putP (upd H a (.tup [p.1, p.2])) as ps b = H b
    rw [putP_off as ps _ (fun z => h (List.mem_cons_of_mem _ z)), upd_ne (fun z => h (by rw [z]; exact List.mem_cons_self))]
theorem putP_at : ∀ (as : List Addr) (ps : List (V × V)) (H : Hp), as.length = ps.length → as.Nodup → Paired (fun (t : Addr) (p : V × V) => putP H as ps t = some (.tup [p.1, p.2])) as ps
  | [], [], _, _, _ => .nil
  | [], _ :: _, _, h, _ => by cases h
  | _ :: _, [], _, h, _ => by cases h
  | a :: as, p :: ps, H, h, hn => by
    have hn' := List.nodup_cons.mp hn
    have ih := putP_at as ps (upd H a (.tup [p.1, p.2])) (Nat.succ.inj h) hn'.2
    refine .cons ?_ ih
    show putP (upd H a (.tup [p.1, p.2])) as ps a = some (.tup [p.1, p.2])
    rw [putP_off as ps _ hn'.1, upd_same]
theorem zip_get2 {α β : Type} : ∀ {xs : List α} {ys : List β} {j : Nat} {p : α × β}, (xs.zip ys)[j]? = some p → xs[j]? = some p.1 ∧ ys[j]? = some p.2
  | [], ys, j, p, h => by simp at h
  | x :: xs, [], j, p, h => by simp at h
  | x :: xs, y :: ys, 0, p, h => by simp at h; subst h; exact ⟨rfl, rfl⟩
  | x :: xs, y :: ys, j + 1, p, h => by
    obtain ⟨h1, h2⟩ := zip_get2 (xs := xs) (ys := ys) (j := j) (by simpa using h)
    exact ⟨by simpa using h1, by simpa using h2⟩
/-- what list(zip(..)) of two tuples leaves -/
def rZipl (K : PySem.W.Frag) : List V → Hp → VK → Prop := fun vs H Q => ∃ (a b : Addr) (xs ys : List V), vs = [.ref a, .ref b] ∧ SqT K H a xs ∧ SqT K H b ys ∧
  ∀ (H' : Hp) (p : Addr) (ts : List Addr), Same H H' → H p = none → (∀ t ∈ ts, H t = none) → p ∉ ts → ts.Nodup → H' p = some (.lst (ts.map V.ref)) → Paired (fun (t : Addr) (q : V × V) => H' t = some (.tup [q.1, q.2])) ts (xs.zip ys) → Q (.ref p) H'
section
variable {X : Cx} {e e2 : Expr} {ta : TA} {p p2 pos pos2 : Pos}
theorem zl_laid {pins : List (Addr × Obj)} {σ : L2.St} {H : Hp} {s : Shared} {h' : Heap} {tk : Nat} {xs ys : List V} {vs us : List Value} {acc : Array Value} {c : Nat} {as : List Addr} {S : Addr} (I : Inv X pins σ H s) (hz : xs.length ≤ sizeLine) (rx : Vals xs vs) (ry : Vals ys us)
    (hk : ∀ b o, s.heap.get? b = some o → h'.get? b = some o) (hle : s.heap.objs.size ≤ S) (hS : h'.get? S = some { cls := .type "list", dict := none, data := .seq acc c, slots := #[] }) (hl : as.length = min vs.toArray.size us.toArray.size) (hG : ZlG vs.toArray us.toArray S h' as) (hacc : acc.toList = as.map Value.ref) :
    ∃ H' : Hp, Same H H' ∧ H S = none ∧ (∀ t ∈ as, H t = none) ∧ S ∉ as ∧ as.Nodup ∧ H' S = some (.lst (as.map V.ref)) ∧ Paired (fun (t : Addr) (q : V × V) => H' t = some (.tup [q.1, q.2])) as (xs.zip ys) ∧ Inv X pins σ H' { s with heap := h', toks := tk } := by
  have lx : xs.length = vs.length := rx.length
  have ly : ys.length = us.length := ry.length
  have lz : as.length = (xs.zip ys).length := by rw [hl, List.length_zip]; simp [lx, ly]
  have hSn : S ∉ as := fun z => Nat.lt_irrefl _ (hG.above _ z)
  have nd : as.Nodup := List.Pairwise.imp (fun {a b} (h : a < b) => Nat.ne_of_lt h) hG.rise
  have new : ∀ t ∈ as, H t = none := fun t ht => I.hok.fresh (Nat.le_trans hle (Nat.le_of_lt (hG.above t ht)))
  have newS : H S = none := I.hok.fresh hle
  have atP := putP_at as (xs.zip ys) (upd H S (.lst (as.map V.ref))) lz nd
  have off : ∀ b, b ∉ as → b ≠ S → putP (upd H S (.lst (as.map V.ref))) as (xs.zip ys) b = H b := fun b h1 h2 => by rw [putP_off as _ _ h1, upd_ne h2]
  have low : ∀ b o, s.heap.get? b = some o → b ∉ as ∧ b ≠ S := fun b o e => ⟨fun z => absurd (Heap.lt_size e) (Nat.not_lt.mpr (Nat.le_trans hle (Nat.le_of_lt (hG.above b z)))), Nat.ne_of_lt (Nat.lt_of_lt_of_le (Heap.lt_size e) hle)⟩
  have kp : ∀ b u, H b = some u → (putP (upd H S (.lst (as.map V.ref))) as (xs.zip ys)) b = some u := fun b u e => by
    rw [off b (fun z => by rw [new b z] at e; cases e) (fun z => by rw [z, newS] at e; cases e)]
    exact e
  have eS : putP (upd H S (.lst (as.map V.ref))) as (xs.zip ys) S = some (.lst (as.map V.ref)) := by rw [putP_off as _ _ hSn, upd_same]
  refine ⟨putP (upd H S (.lst (as.map V.ref))) as (xs.zip ys), kp, newS, new, hSn, nd, eS, atP, ?_⟩
  refine I.call' (ch := []) rfl ⟨fun b o q _ _ _ => hk b o q, fun b o q _ _ _ => ⟨o.slots, hk b o q⟩, fun b o q n _ => ?_, fun b o q _ => ⟨o, hk b o q⟩, fun b xs q => kp b _ q, fun b o u q => kp b _ q, fun b ps q => ⟨#[], by rw [kp b _ q]; simp⟩⟩ (fun b u q => ?_) I.bare fun b z => by simp at z
  · obtain ⟨z1, z2⟩ := low b o q
    rw [off b z1 z2]
    exact n
  · by_cases hb : b ∈ as
    · obtain ⟨j, pk, e1, e2, e3⟩ := LiI.paired_ix atP hb
      rw [e3] at q
      cases q
      obtain ⟨x, y, f1, f2, f3⟩ := hG.pairs j b e1
      obtain ⟨g1, g2⟩ := zip_get2 e2
      obtain ⟨x', k1, k2⟩ := rx.get g1
      obtain ⟨y', k3, k4⟩ := ry.get g2
      have ex : x' = x := by
        have : vs[j]? = some x := by simpa using f1
        rw [k1] at this; cases this; rfl
      have ey : y' = y := by
        have : us[j]? = some y := by simpa using f2
        rw [k3] at this; cases this; rfl
      subst ex ey
      exact ⟨by show 2 ≤ sizeLine; decide, [x', y'], .cons k2 (.cons k4 .nil), ⟨_, f3, rfl, _, rfl⟩⟩
    · by_cases hb2 : b = S
      · rw [hb2] at q ⊢
        rw [eS] at q
        cases q
        refine ⟨by rw [List.length_map, lz, List.length_zip]; omega, acc.toList, c, by rw [hacc]; exact LiI.vals_refs as, ?_⟩
        rw [Array.toArray_toList]
        exact hS
      · rw [off b hb hb2] at q
        exact (I.hok b u q).stay (fun d v _ y => hk d v y) (fun d y => kp d _ y) fun d xs y => kp d _ y
/-- list(zip(e, e2)) -/
theorem pe_zipl (hc : X.calm = true) (hg : Gl X "list") (hm : X.mg "list" = none) (hg2 : Gl X "zip") (hm2 : X.mg "zip" = none) (ha : PA X [e, e2] ta)
    (hs2 : starEach [e, e2] X.env = (false, eval e X.env) :: starEach [e2] X.env) (hpl : (backTo pos2 (starEach [e2] X.env)).any (·.1) = false) :
    PE X (.Call (.Name "list" p) [.Call (.Name "zip" p2) [e, e2] [] pos2] [] pos) (fun σ H Q => ta σ H fun vs H1 => rZipl X.K vs H1 Q) := by
  refine ⟨fun pins s σ H Q I hq => ?_⟩
  have hs : starEach [.Call (.Name "zip" p2) [e, e2] [] pos2] X.env = (false, eval (.Call (.Name "zip" p2) [e, e2] [] pos2) X.env) :: starEach [] X.env := rfl
  refine wpAny_Call_Name_kw (ld_blt I hg hm (show bootBuiltins "list" = some (.type "list") by decide +kernel) ?_)
  refine PyProof.Rows.callWith_type1 ?_ hs rfl
  rw [hs]
  show wpAny _ _ (spliced ((false, eval (.Call (.Name "zip" p2) [e, e2] [] pos2) X.env) :: backTo pos (starEach [] X.env))) _ _ s
  refine Calls.spliced_cons ?_
  refine Call_ (ld_blt I hg2 hm2 PyProof.Rows.boot_zip (PyProof.Rows.callWith_type1 (thn (ha.run pos2 pins s σ H _ I hq) fun us s1 ⟨vs, H1, I1, r1, q1⟩ => ?_) hs2 hpl))
  obtain ⟨a, b, xs, ys, ex, hqx, hqy, q⟩ := q1
  subst ex
  cases r1 with
  | cons r rr =>
    cases rr with
    | cons r' rr =>
      cases rr
      cases r
      cases r'
      obtain ⟨its, rv, p1, hz1⟩ := I1.tuple hqx
      obtain ⟨its2, rv2, p3, hz2⟩ := I1.tuple hqy
      obtain ⟨o1, ho1, _⟩ := id p1
      obtain ⟨o2, ho2, _⟩ := id p3
      have la : a < s1.heap.objs.size := Heap.lt_size ho1
      have lb : b < s1.heap.objs.size := Heap.lt_size ho2
      refine RZ.call_zipT (show s1.heap.IsTuple a its.toArray from p1) (show s1.heap.IsTuple b its2.toArray from p3) fun h' hz hTI hTO h1 h2 hsz hk => Calls.spliced_nil ?_
      have D : ZipApart (s1.heap.objs.size + 4) (s1.heap.objs.size + 2) (s1.heap.objs.size + 3) s1.heap.objs.size (s1.heap.objs.size + 1) a b := PySem.W.ktu_apart s1.heap.objs.size a b la lb
      have L : ZlLow (s1.heap.objs.size + 4) (s1.heap.objs.size + 2) (s1.heap.objs.size + 3) s1.heap.objs.size (s1.heap.objs.size + 1) a b h'.objs.size := by
        rw [hsz]
        have t : ∀ {i j : Nat}, i < j → (i : Addr) < (j : Addr) := fun h => h
        exact ⟨t (by omega), t (by omega), t (by omega), t (by omega), t (by omega), Nat.lt_of_lt_of_le la (Nat.le_add_right _ _), Nat.lt_of_lt_of_le lb (Nat.le_add_right _ _)⟩
      have q1 : s1.heap.IsTuple a its.toArray := p1
      have q3 : s1.heap.IsTuple b its2.toArray := p3
      refine zl_call (s := { s1 with heap := h' }) (xs := its.toArray) (ys := its2.toArray) (I1.ok.hd hc) D L ⟨hTI, h1, h2, .inl ⟨hz, _, _, hTO⟩⟩ (q1.at fun o e => hk _ o e) (q3.at fun o e => hk _ o e) (by have := rv.length; have := rv2.length; simp; omega) fun h'' tk acc c as hk2 hS hl hG hacc => ?_
      have hlow : ∀ bb o, s1.heap.get? bb = some o → h''.get? bb = some o := fun bb o e => by
        have l : bb < s1.heap.objs.size := Heap.lt_size e
        exact hk2 bb o (Nat.ne_of_lt (Nat.lt_of_lt_of_le l (Nat.le_add_right _ _))) (Nat.ne_of_lt (Nat.lt_of_lt_of_le l (Nat.le_add_right _ _))) (Nat.ne_of_lt l) (Nat.ne_of_lt (Nat.lt_of_lt_of_le l (Nat.le_add_right _ _))) (hk bb o e)
      obtain ⟨H', k1, k2, k3, k4, k5, k6, k7, J⟩ := zl_laid (tk := tk) I1 (by have := rv.length; omega) rv rv2 hlow (by show s1.heap.objs.size ≤ h'.objs.size; rw [hsz]; exact Nat.le_add_right _ _) hS hl hG hacc
      exact ⟨.ref _, H', J, rfl, q H' _ as k1 k2 k3 k4 k5 k6 k7⟩
end
end Ev

set_option Elab.async false
set_option linter.all false
set_option maxRecDepth 100000
set_option maxHeartbeats 4000000
/-! More expressions: join, split, a list turned about, a dict of one pair, get, a dict's keys. -/
namespace Ev
open PySem PySem.Spec PyProof.Rows L2
theorem RpL.strs {K : PySem.W.Frag} {Z : Hp} : ∀ {vs : List V} {ds : List D} {ns : List Str}, RpL K Z vs ds → strsOf ds = some ns → vs = ns.map V.str
  | _, _, ns, .nil, e => by
    have : ns = [] := (Option.some.inj e).symm
    subst this; rfl
  | _, _, ns, .cons (.str i) r, e => by
    unfold strsOf at e
    obtain ⟨ms, e1, e2⟩ := Option.map_eq_some_iff.mp e
    subst e2
    rw [List.map_cons, r.strs e1]
  | _, _, _, .cons .non _, e => by cases e
  | _, _, _, .cons (.bl _) _, e => by cases e
  | _, _, _, .cons (.int _) _, e => by cases e
  | _, _, _, .cons (.lst _ _) _, e => by cases e
  | _, _, _, .cons (.tup _ _) _, e => by cases e
theorem strs_rel {K : PySem.W.Frag} {Z : Hp} : ∀ ns : List Str, RpL K Z (ns.map V.str) (ns.map PyData.str)
  | [] => .nil
  | n :: ns => .cons (.str n) (strs_rel ns)
theorem RpL.reverse {K : PySem.W.Frag} {Z : Hp} : ∀ {vs : List V} {ds : List D}, RpL K Z vs ds → RpL K Z vs.reverse ds.reverse
  | _, _, .nil => .nil
  | _, _, .cons h r => by rw [List.reverse_cons, List.reverse_cons]; exact r.reverse.app (.cons h .nil)
section
variable {S : Sx} {Tl : List (Addr × Str)} {Cv : Str → Value} {n : Nat} {sc : Scope} {W : WX} {X : Cx}
variable {a b c o : Expr} {as : List Expr} {ea eb ec : M RV} {qa qb qs : Bool} {pos p ap p2 p3 : Pos}
theorem tE.imp {K : PySem.W.Frag} {ev : M RV} {q : Bool} {σ : L2.St} {H : Hp} {Q Q' : VK} (h : tE K Tl Cv W ev q σ H Q) (hq : ∀ v H', Q v H' → Q' v H') : tE K Tl Cv W ev q σ H Q' :=
  let ⟨Z, F, δ, ow, st, h⟩ := h
  ⟨Z, F, δ, ow, st, h.imp fun r δ' h v H' hp => hq v H' (h v H' hp)⟩
/-- one operand and an operation that asks it as it stands -/
theorem un_reads {K : PySem.W.Frag} {f : Slot → Option RV} (hf : f .emp = none) {σ : L2.St} {H : Hp} {Q : VK} (h : tE K Tl Cv W (kUn f ea) false σ H Q) :
    tE K Tl Cv W ea qa σ H fun x H1 => ∃ (Z : Hp) (s : Slot) (r : RV), Same Z H1 ∧ ViR K Z H1 s x ∧ f s = some r ∧ ∀ v H', NewR K Z H1 r v H' → Q v H' := by
  obtain ⟨Z, F, δ, ow, st, h⟩ := h
  refine ⟨Z, F, δ, ow, st, h.bind.imp fun ra δ1 h1 x H1 ⟨Z1, F1, ow1, g1, f1, st1, r1, s1⟩ => ?_⟩
  obtain ⟨r, e, hp⟩ := h1.opt
  have n1 : view ra δ1 ≠ .emp := fun z => by rw [z, hf] at e; cases e
  exact ⟨Z1, _, r, st1.z, r1.view st1 n1, e, fun v H' hn => hp v H' (new_post st1 g1 f1 (fun e => by cases e) hn)⟩
theorem base_ok {m : Str} {env : Env} (h : ∀ x q p, o ≠ .Call (.Name x q) [] [] p) : attributeBase o m env (eval o env) = eval o env := by
  unfold attributeBase
  split
  · exact absurd rfl (h _ _ _)
  · rfl
theorem pe_kJoin {s : Str} (ho : PE X o (tC (.str s))) (hb : attributeBase o "join" X.env (eval o X.env) = eval o X.env) (hl : (ap.endLine == pos.line) = true) (oa : okE a = true) (ha : PE X a (tE X.K Tl Cv W ea qa)) :
    PE X (.Call (.Attribute o "join" ap) [a] [] pos) (tE X.K Tl Cv W (kUn (joinV s) ea) false) := by
  refine PE.imp (pe_join ho ha (ok_star oa) hb hl) fun σ H Q h => ⟨⟨s, rfl⟩, (un_reads rfl h).imp ?_⟩
  rintro x H1 ⟨Z, sl, r, hz, hv, e, q⟩
  unfold joinV at e
  obtain ⟨ds, e1, e⟩ := Option.bind_eq_some_iff.mp e
  obtain ⟨ys, e2, e⟩ := Option.bind_eq_some_iff.mp e
  split at e
  · cases e
    rename_i hk _
    obtain ⟨a', vs, e3, h3, r3⟩ := seq_view hz hv e1
    have e4 := r3.strs e2
    subst e4
    exact ⟨s, a', ys, rfl, by rw [e3], h3.imp id fun h => h.1, Nat.le_of_ble_eq_true hk, q _ _ (.inl ⟨rfl, .str _⟩)⟩
  · cases e
theorem pe_kSplit {s : Str} (hb : attributeBase a "split" X.env (eval a X.env) = eval a X.env) (hl : (ap.endLine == pos.line) = true) (ha : PE X a (tE X.K Tl Cv W ea qa)) {j} :
    PE X (.Call (.Attribute a "split" ap) [.Constant (.str s) j p2] [] pos) (tE X.K Tl Cv W (kUn (splitV s) ea) false) := by
  refine PE.imp (pe_split ha pe_str rfl hb hl) fun σ H Q h => (un_reads rfl h).imp ?_
  rintro x H1 ⟨Z, sl, r, hz, hv, e, q⟩
  unfold splitV at e
  split at e
  · rename_i y
    split at e
    · cases e
      rename_i hk
      rw [Bool.and_eq_true, Bool.not_eq_true'] at hk
      have ex := hv.str
      refine ⟨⟨_, ex⟩, y, s, ex, rfl, hk.1, okLen_le hk.2, fun p hp => q _ _ ⟨p, _, hp, rfl, rfl, strs_rel _⟩⟩
    · cases e
  · cases e
theorem pe_kRev {k : Nat} (ha : PE X a (tE X.K Tl Cv W ea qa)) :
    PE X (.Subscript a (.Slice none none (some (.UnaryOp .USub (.Constant (.int 1) k p) p2)) p3) pos) (tE X.K Tl Cv W (kUn revV ea) false) := by
  refine PE.imp (pe_revL ha) fun σ H Q h => (un_reads rfl h).imp ?_
  rintro x H1 ⟨Z, sl, r, hz, hv, e, q⟩
  unfold revV at e
  obtain ⟨ds, e1, e2⟩ := Option.map_eq_some_iff.mp e
  subst e2
  obtain ⟨a', vs, e3, h3, r3⟩ := lst_view hz hv e1
  exact ⟨a', vs, e3, SqL.of h3, fun p hp => q _ _ ⟨p, _, hp, rfl, rfl, r3.reverse⟩⟩
/-! ### a dict of one pair -/
theorem gr_base {Z F F' Z1 : Hp} (g : Gr Z F' Z1) (f : Same F F') : Gr Z F Z1 := ⟨g.s, fun a h1 h2 => g.n a h1 (by
  cases e : F a with
  | none => exact absurd e h2
  | some o => rw [f _ _ e]; simp)⟩
theorem pe_kDisp1 (ha : PE X a (tE X.K Tl Cv W ea qa)) (hb : PE X b (tE X.K Tl Cv W eb qb)) : PE X (.Dict [some a] [b] pos) (tE X.K Tl Cv W (kDisp1 ea eb) false) := by
  refine PE.imp (pe_disp (pps_cons ha hb pps_nil) rfl rfl (by simp) (by simp)) fun σ H Q ⟨Z, F, δ, ow, st, h⟩ p hp => ?_
  obtain ⟨n1, n2, n3⟩ := st.new_not hp
  have fF : Same F (upd F p (.dK [])) := same_upd n3
  refine ⟨Z, _, δ, ow, st.newF hp (fun ps e => by cases e), ((h.bind.weak (Gr.refl _ _) fF).imp fun rk δ1 h1 x H1 ⟨Z1, F1, ow1, g1, f1, st1, r1, s1⟩ => ?_)⟩
  cases rk with
  | dat kd =>
    refine ⟨Z1, F1, δ1, ow1, st1, ((h1.bind.weak (gr_base g1 fF) (fF.trans f1)).imp fun rv δ2 h2 y H2 hp2 => ?_)⟩
    obtain ⟨d, δ3, h3, Z2, F2, ow2, g2, f2, st2, r2, s2⟩ := settle_post hp2 h2.bind
    obtain ⟨w, e, hq⟩ := h3.opt
    obtain ⟨k, e1, e2⟩ := Option.map_eq_some_iff.mp e
    subst e2
    have ex := key_of (show Rp X.K Z1 x kd from r1) e1
    subst ex
    have st3 := st2.drop (f1.trans f2)
    have z2 : Z2 p = none := g2.n _ (g1.n _ n2 (by rw [upd_same]; simp)) (by rw [f1 _ _ upd_same]; simp)
    refine ⟨st3.f _ _ upd_same, [(k, y)], rfl, by simp, hq (.ref p) _ ⟨Z2, upd F p (.dK [(k, y)]), ow2, (gr_base g1 fF).trans (fF.trans f1) g2, same_upd n3, st3.wrF z2 rfl rfl, ⟨[p], ⟨p, _, rfl, upd_same, ⟨rfl, r2, trivial⟩, rfl⟩, fun a m => ?_⟩, fun e => by cases e⟩⟩
    cases List.mem_singleton.mp m
    exact ⟨z2, n3⟩
  | _ => exact (show False from h1).elim
/-! ### get -/
theorem isDK_of {s : Slot} (h : isDK s = true) : ∃ kvs, s = .dK kvs := by
  cases s <;> first | exact ⟨_, rfl⟩ | cases h
theorem dk_slot {K : PySem.W.Frag} {Z F H : Hp} {δ : Sts} {σ : L2.St} {ow : Nat → List Addr} {i : Nat} {kvs : List (Key × D)} (st : StR K Tl Z F δ σ H ow) (h : getS δ i = .dK kvs) : ∃ p ps, σ[i]? = some (some (.ref p)) ∧ H p = some (.dK ps) ∧ KvR K Z ps kvs := by
  obtain ⟨v, ev, hs⟩ := st.sl i (by rw [h]; simp)
  rw [h] at hs
  obtain ⟨p, ps, rfl, e, r, _⟩ := hs
  exact ⟨p, ps, ev, e, r⟩
theorem pe_kGet2 (ck : Cok S Tl Cv n sc W X) {i : Nat} {x : Str} (h1 : nmB S.N i x = true) (h2 : visB sc x = true) (hl : (ap.endLine == pos.line) = true) (oa : okE a = true) (ob : okE b = true) (ha : PE X a (tE X.K Tl Cv W ea qa)) (hb : PE X b (tE X.K Tl Cv W eb qb)) :
    PE X (.Call (.Attribute (.Name x p) "get" ap) [a, b] [] pos) (tE X.K Tl Cv W (kGet2 i ea eb) false) := by
  obtain ⟨e1, e2, e3⟩ := nm_of h1
  have st2 : starEach [a, b] X.env = [(false, eval a X.env), (false, eval b X.env)] := star_two oa ob
  have m : M2 X (.Name x p) "get" ap a b pos := ⟨rfl, by rw [st2]; rfl, hl, by rw [st2]; rfl⟩
  refine PE.imp (pe_dget2 (by have := ck.u65; omega) (pe_var (i := i) (by rw [ck.N]; exact e1) (ck.vis h2) e2 e3) ha hb m) fun σ H Q ⟨Z, F, δ, ow, st, h⟩ => ?_
  unfold kGet2 at h
  by_cases c : isDK (getS δ i) = true
  · rw [if_pos c] at h
    obtain ⟨kvs, ek⟩ := isDK_of c
    obtain ⟨q, ps, ev, eH, _⟩ := dk_slot st ek
    refine ⟨_, ev, q, rfl, .inl ⟨ps, .inl eH⟩, Z, F, δ, ow, st, h.bind.imp fun rk δ1 h1 y H1 ⟨Z1, F1, ow1, g1, f1, st1, r1, s1⟩ => ?_⟩
    cases rk with
    | dat kd =>
      by_cases c1 : isDK (getS δ1 i) = true
      · have h1 : RP X.K Tl Cv W Z F σ (if isDK (getS δ1 i) = true then _ else _) _ := h1
        rw [if_pos c1] at h1
        refine ⟨Z1, F1, δ1, ow1, st1, (h1.bind.weak g1 f1).imp fun rd δ2 h2 z H2 ⟨Z2, F2, ow2, g2, f2, st2, r2, s2⟩ => ?_⟩
        cases rd with
        | dat dd =>
          obtain ⟨w, e, hp⟩ := h2.opt
          unfold getK at e
          split at e
          · rename_i kvs2 ek2
            obtain ⟨k, e4, e5⟩ := Option.map_eq_some_iff.mp e
            subst e5
            obtain ⟨q2, ps2, ev2, eH2, rk⟩ := dk_slot st2 ek2
            rw [ev] at ev2
            cases ev2
            have ey := key_of (show Rp X.K Z1 y kd from r1) e4
            subst ey
            obtain ⟨k1, k2⟩ := rk.look k
            refine ⟨_, DGet.k eH2, hp _ H2 ⟨Z2, F2, ow2, g1.trans f1 g2, f1.trans f2, st2, ?_, fun e => by cases e⟩⟩
            cases el : lookA kvs2 k with
            | some d' => obtain ⟨v, e6, e7⟩ := k1 d' el; rw [e6]; exact e7
            | none => rw [k2 el]; exact r2
          · cases e
        | _ => exact (show False from h2).elim
      · have h1 : RP X.K Tl Cv W Z F σ (if isDK (getS δ1 i) = true then _ else _) _ := h1
        rw [if_neg c1] at h1
        exact h1.elim
    | _ => exact (show False from h1).elim
  · rw [if_neg c] at h
    exact h.elim
theorem pe_kGet1 (ck : Cok S Tl Cv n sc W X) {i : Nat} {x : Str} (h1 : nmB S.N i x = true) (h2 : visB sc x = true) (hl : (ap.endLine == pos.line) = true) (oa : okE a = true) (ha : PE X a (tE X.K Tl Cv W ea qa)) :
    PE X (.Call (.Attribute (.Name x p) "get" ap) [a] [] pos) (tE X.K Tl Cv W (kGet1 i ea) false) := by
  obtain ⟨e1, e2, e3⟩ := nm_of h1
  have st2 : starEach [a] X.env = [(false, eval a X.env)] := star_one oa
  have m : M1 X (.Name x p) "get" ap a pos := ⟨rfl, by rw [st2]; rfl, hl, by rw [st2]; rfl⟩
  refine PE.imp (pe_dget1 (by have := ck.u65; omega) (pe_var (i := i) (by rw [ck.N]; exact e1) (ck.vis h2) e2 e3) ha m) fun σ H Q ⟨Z, F, δ, ow, st, h⟩ => ?_
  unfold kGet1 at h
  by_cases c : isDK (getS δ i) = true
  · rw [if_pos c] at h
    obtain ⟨kvs, ek⟩ := isDK_of c
    obtain ⟨q, ps, ev, eH, _⟩ := dk_slot st ek
    refine ⟨_, ev, q, rfl, .inl ⟨ps, .inl eH⟩, Z, F, δ, ow, st, h.bind.imp fun rk δ1 h1 y H1 ⟨Z1, F1, ow1, g1, f1, st1, r1, s1⟩ => ?_⟩
    cases rk with
    | dat kd =>
      obtain ⟨w, e, hp⟩ := RP.opt (show RP X.K Tl Cv W Z F σ (Res.ofOpt (getK (getS δ1 i) kd .none) δ1) _ from h1)
      unfold getK at e
      split at e
      · rename_i kvs2 ek2
        obtain ⟨k, e4, e5⟩ := Option.map_eq_some_iff.mp e
        subst e5
        obtain ⟨q2, ps2, ev2, eH2, rk⟩ := dk_slot st1 ek2
        rw [ev] at ev2
        cases ev2
        have ey := key_of (show Rp X.K Z1 y kd from r1) e4
        subst ey
        obtain ⟨k1, k2⟩ := rk.look k
        refine ⟨_, DGet.k eH2, hp _ H1 ⟨Z1, F1, ow1, g1, f1, st1, ?_, fun e => by cases e⟩⟩
        cases el : lookA kvs2 k with
        | some d' => obtain ⟨v, e6, e7⟩ := k1 d' el; rw [e6]; exact e7
        | none => rw [k2 el]; exact .non
      · cases e
    | _ => exact (show False from h1).elim
  · rw [if_neg c] at h
    exact h.elim
/-! ### list(zip(a, b)) -/
theorem zl_rel {K : PySem.W.Frag} {Z : Hp} : ∀ {ts : List Addr} {xs ys : List V} {ds es : List D}, Paired (fun (t : Addr) (q : V × V) => Z t = some (.tup [q.1, q.2])) ts (xs.zip ys) → RpL K Z xs ds → RpL K Z ys es → RpL K Z (ts.map V.ref) (zipL ds es)
  | ts, _, _, _, _, h, .nil, r => by
    cases h
    cases r <;> exact .nil
  | ts, _, _, _, _, h, .cons h1 r1, .nil => by
    cases h
    exact .nil
  | t :: ts, _, _, _, _, h, .cons h1 r1, .cons h2 r2 => by
    cases h with
    | cons h h' => exact .cons (.tup h (.cons h1 (.cons h2 .nil))) (zl_rel h' r1 r2)
  | [], _, _, _, _, h, .cons h1 r1, .cons h2 r2 => by cases h
theorem paired_mem {α β : Type} {G : α → β → Prop} : ∀ {xs : List α} {ys : List β}, Paired G xs ys → ∀ x ∈ xs, ∃ y, G x y
  | _, _, .cons h t, x, m => by
    rcases List.mem_cons.mp m with rfl | m
    · exact ⟨_, h⟩
    · exact paired_mem t x m
theorem pe_kZipl (ck : Cok S Tl Cv n sc W X) {f g : Str} (hf : f = "list") (hg : g = "zip") (h1 : glB sc f = true) (h2 : glB sc g = true) (oa : okE a = true) (ob : okE b = true) (ha : PE X a (tE X.K Tl Cv W ea qa)) (hb : PE X b (tE X.K Tl Cv W eb qb)) :
    PE X (.Call (.Name f p) [.Call (.Name g p2) [a, b] [] p3] [] pos) (tE X.K Tl Cv W (kZipl ea eb) false) := by
  subst hf hg
  refine PE.imp (pe_zipl ck.calm (ck.gl h1).1 (ck.glo.blt _ (by decide)) (ck.gl h2).1 (ck.glo.blt _ (by decide)) (pa_cons ha (pa_cons hb pa_nil (star_one ob)) (ok_star oa)) (ok_star oa) (by rw [star_one ob]; rfl)) fun σ H Q ⟨Z, F, δ, ow, st, h⟩ => ⟨Z, F, δ, ow, st, h.bind.imp fun r δ1 h1 x H1 hp => ?_⟩
  obtain ⟨d, δ', h2, Z1, F1, ow1, g1, f1, st1, r1, s1⟩ := settle_post hp h1.bind
  refine ⟨Z1, F1, δ', ow1, st1, (h2.bind.weak g1 f1).imp fun r' δ2 h3 y H2 hp2 => ?_⟩
  obtain ⟨d2, δ3, h4, Z2, F2, ow2, g2, f2, st2, r2, s2⟩ := settle_post hp2 h3.bind
  have r1' := Rp.mono g2.s r1
  cases d with
  | tuple ds => cases d2 with
    | tuple es =>
      cases r1' with
      | tup hz rr => cases r2 with
        | tup hz' rr' =>
          refine ⟨_, _, _, _, rfl, SqT.of (st2.z _ _ hz), SqT.of (st2.z _ _ hz'), fun H' p ts hs hp hts hpn hnd hl hpr => ?_⟩
          have sF := st2.drop (f1.trans f2)
          obtain ⟨n1, n2, n3⟩ := sF.new_not hp
          have zts : ∀ t ∈ ts, Z2 t = none := fun t m => sF.z.free (hts t m)
          have fts : ∀ t ∈ ts, F t = none := fun t m => sF.f.free (hts t m)
          have ots : ∀ i t, t ∈ ow2 i → t ∉ ts := fun i t m m' => (sF.new_not (hts t m')).1 i m
          have hZ : Same (mixH Z2 H' ts) H' := fun t o e => by
            by_cases m : t ∈ ts
            · rw [mix_in m] at e; exact e
            · rw [mix_out m] at e; exact hs _ _ (sF.z _ _ e)
          have sZ : StR X.K Tl (mixH Z2 H' ts) F δ3 σ H' ow2 := (sF.same hs).addZ (mix_same zts) hZ (fun i t m => by rw [mix_out (ots i t m)]; exact (sF.fr i t m).1) (fun t ps e => by
            by_cases m : t ∈ ts
            · rw [mix_in m] at e
              obtain ⟨q, hq⟩ := paired_mem hpr t m
              rw [hq] at e; cases e
            · rw [mix_out m] at e; exact sF.nz t ps e)
          have sG : StR X.K Tl (mixH Z2 H' ts) (upd F p (.lst (ts.map V.ref))) δ3 σ H' ow2 := sZ.addF (same_upd n3) (fun t o e => by
            by_cases c : t = p
            · subst c; rw [upd_same] at e; cases e; exact hl
            · rw [upd_ne c] at e; exact sZ.f _ _ e) (fun i t m => by rw [upd_ne (fun z : t = p => n1 i (z ▸ m))]; exact (sF.fr i t m).2) (fun t ps e => by
            by_cases c : t = p
            · subst c; rw [upd_same] at e; cases e
            · rw [upd_ne c] at e; exact sF.nf t ps e)
          have zp : mixH Z2 H' ts p = none := by rw [mix_out hpn]; exact n2
          have aux : ∀ {us : List Addr} {qs : List (V × V)}, (∀ t ∈ us, t ∈ ts) → Paired (fun (t : Addr) (q : V × V) => H' t = some (.tup [q.1, q.2])) us qs → Paired (fun (t : Addr) (q : V × V) => mixH Z2 H' ts t = some (.tup [q.1, q.2])) us qs := by
            intro us qs hm h
            induction h with
            | nil => exact .nil
            | cons h t ih => exact .cons (by rw [mix_in (hm _ List.mem_cons_self)]; exact h) (ih fun u m => hm u (List.mem_cons_of_mem _ m))
          have hpr' := aux (fun t m => m) hpr
          have rl := zl_rel hpr' (rr.mono (mix_same zts)) (rr'.mono (mix_same zts))
          refine h4 (.ref p) H' ⟨mixH Z2 H' ts, _, ow2, (g1.trans f1 g2).trans (Same.refl _) ⟨mix_same zts, fun t e1 e2 => ?_⟩, same_upd n3, sG, ⟨[p], ⟨p, _, rfl, upd_same, rl, rfl⟩, fun t m => ?_⟩, fun e => by cases e⟩
          · rw [mix_out (fun m => e2 (fts t m))]; exact e1
          · cases List.mem_singleton.mp m
            exact ⟨zp, n3⟩
    | _ => exact (show False from h4).elim
  | _ => exact (show False from h4).elim
/-! ### the keys of a dict -/
theorem keys_get {K : PySem.W.Frag} {Z : Hp} : ∀ {ps : List (Key × V)} {kvs : List (Key × D)} {i : Nat} {d : D} {k : Key} {v : V}, KvR K Z ps kvs → (kvs.map fun kv => keyD kv.1)[i]? = some d → ps[i]? = some (k, v) → d = keyD k
  | [], [], i, d, k, v, _, h, _ => by simp at h
  | p :: ps, q :: kvs, 0, d, k, v, ⟨e, _, _⟩, h, h2 => by
    simp at h h2
    subst h2
    rw [← h, ← e]
  | p :: ps, q :: kvs, i + 1, d, k, v, ⟨_, _, r⟩, h, h2 => keys_get r (by simpa using h) (by simpa using h2)
theorem keyD_rel {K : PySem.W.Frag} {Z : Hp} : ∀ k : Key, Rp K Z (kV k) (keyD k)
  | .inl i => .int i
  | .inr x => .str x
theorem it_keys {K : PySem.W.Frag} {Z : Hp} {q : Addr} {od : Obj} {ps : List (Key × V)} {kvs : List (Key × D)} (e : Z q = some (.frz od (.dK ps))) (r : KvR K Z ps kvs) : ItOk K Z (kvs.map fun kv => keyD kv.1) (Itk q od ps) where
  go := fun i H s h => ⟨s _ _ e, by rw [List.length_map] at h; rw [r.len]; exact h⟩
  yl := fun i H d x H' s h ⟨e1, k, v, e2, e3⟩ => .inl ⟨e1, by rw [e3, keys_get r h e2]; exact keyD_rel k⟩
  st := fun i H s h => ⟨s _ _ e, by rw [List.length_map] at h; rw [r.len]; exact h⟩
theorem pi_kKeys {tg : Expr} (ha : PE X a (tE X.K Tl Cv W ea qa)) : PI X tg a (tI X.K Tl Cv W (kKeys ea)) := by
  refine ⟨fun pins s σ H R I ⟨Z, F, δ, ow, st, h⟩ => ?_⟩
  refine thn (ha.run pins s σ H (fun x H1 => ∃ q ps, x = .ref q ∧ H1 q = some (.dK ps) ∧ ∀ od, R (Itk q od ps) (upd H1 q (.frz od (.dK ps)))) I ⟨Z, F, δ, ow, st, h.bind.imp fun r δ1 h1 x H1 ⟨Z1, F1, ow1, g1, f1, st1, r1, s1⟩ => ?_⟩) fun v s1 hx => ?_
  · cases r with
    | own sl => cases sl with
      | dK kvs =>
        obtain ⟨B, ⟨q, ps, rfl, eF, rk, rfl⟩, hB⟩ := r1
        obtain ⟨zq, fq⟩ := hB q List.mem_cons_self
        have hq : H1 q = some (.dK ps) := st1.f _ _ eF
        have oq : ∀ i, q ∉ ow1 i := fun i m => by rw [(st1.fr i q m).2] at eF; cases eF
        refine ⟨q, ps, rfl, hq, fun od => h1 _ _ (upd Z1 q (.frz od (.dK ps))) ow1 (g1.trans (Same.refl _) ⟨same_upd zq, fun t e1 e2 => by rw [upd_ne (fun z : t = q => e2 (z ▸ fq))]; exact e1⟩) ?_ (it_keys upd_same (rk.mono (same_upd zq)))⟩
        have sF := st1.drop f1
        refine ⟨fun t o e => ?_, fun t o e => ?_, fun i hi => ?_, sF.em, sF.dj, fun i t m => ⟨?_, (sF.fr i t m).2⟩, sF.ln, tabs_upd sF.tb hq rfl, fun t ps' e => ?_, sF.nf⟩
        · by_cases c : t = q
          · subst c; rw [upd_same] at e ⊢; exact e
          · rw [upd_ne c] at e ⊢; exact sF.z _ _ e
        · rw [upd_ne (fun z : t = q => by rw [z, fq] at e; cases e)]; exact sF.f _ _ e
        · obtain ⟨v, ev, hs⟩ := sF.sl i hi
          exact ⟨v, ev, hs.mono (same_upd zq) fun t m o e => by rw [upd_ne (fun z : t = q => oq i (z ▸ m))]; exact e⟩
        · rw [upd_ne (fun z : t = q => oq i (z ▸ m))]; exact (sF.fr i t m).1
        · by_cases c : t = q
          · subst c; rw [upd_same] at e; cases e
          · rw [upd_ne c] at e; exact sF.nz t ps' e
      | _ => exact (show False from h1).elim
    | _ => exact (show False from h1).elim
  · obtain ⟨x, H1, I1, r1, q, ps, rfl, hq, hR⟩ := hx
    cases r1
    obtain ⟨od, I2⟩ := I1.lock hq trivial
    obtain ⟨hs, hgd, hx, es, ep, vs, hdt, hsz, kv, hm⟩ := I2.frzK upd_same
    refine iter_keys hs hgd hx hdt (pi_one (tk := s1.toks) I2 _ (turn_keys _ hdt) ⟨_, Heap.get?_push_size _ rfl, rfl, ?_⟩ (hR od))
    rw [hsz] <;> rfl
end
end Ev

set_option Elab.async false
set_option linter.all false
set_option maxRecDepth 100000
set_option maxHeartbeats 4000000
/-! Every expression. -/
namespace Ev
open PySem PySem.Spec PyProof.Rows L2
section
variable {S : Sx} {Tl : List (Addr × Str)} {Cv : Str → Value} {n : Nat} {sc : Scope} {W : WX} {X : Cx}
variable {a b c : Expr} {as : List Expr} {ea eb ec : M RV} {qa qb qs : Bool} {pos p ap : Pos}
theorem tgC_sto (ck : Cok S Tl Cv n sc W X) {tg : Tg} {e : Expr} (h : tgC S.N sc tg e = true) : StoT X tg e := by
  have one : ∀ {i : Nat} {x : Str} {p : Pos}, nmB S.N i x = true → sc.names.lookup x = some .local → StoN X i (.Name x p) := fun {i x p} h1 h2 => by
    obtain ⟨e1, e2, e3⟩ := nm_of h1
    have h2' : X.env.scope.names.lookup x = some .local := by rw [ck.sc]; exact h2
    exact ⟨x, p, rfl, by rw [ck.N]; exact e1, pg_name (by rw [ck.N]; exact ck.nd) (by rw [ck.N]; exact e1) (.inl h2') (.inr h2')⟩
  cases tg with
  | nm i =>
    unfold tgC at h
    split at h
    · rename_i hx; cases hx
      rw [Bool.and_eq_true] at h
      exact one h.1 (of_decide_eq_true h.2)
    · rename_i hx; cases hx
    · cases h
  | tup is =>
    unfold tgC at h
    split at h
    · rename_i hx; cases hx
    · rename_i is' es k p hx
      cases hx
      rw [Bool.and_eq_true] at h
      refine ⟨es, k, p, rfl, ?_⟩
      obtain ⟨h1, h2⟩ := h
      have h1 : is.length = es.length := by simpa using h1
      clear k p
      induction is generalizing es with
      | nil => cases es with
        | nil => trivial
        | cons _ _ => simp at h1
      | cons i is ih => cases es with
        | nil => simp at h1
        | cons e es =>
          simp only [List.zip_cons_cons, List.all_cons, Bool.and_eq_true] at h2
          refine ⟨?_, ih es (by simpa using h1) h2.2 (by simpa using h1)⟩
          have h3 := h2.1
          split at h3
          · rw [Bool.and_eq_true] at h3
            exact one h3.1 (of_decide_eq_true h3.2)
          · cases h3
    · cases h
theorem tgR_sto (ck : Cok S Tl Cv n sc W X) {raw : Scope} (hf : ∀ x, raw.names.lookup x = some .cell → X.fn x = true) {tg : Tg} {e : Expr} (h : tgR S.N raw sc tg e = true) : StoT X tg e := by
  have one : ∀ {i : Nat} {x : Str} {p : Pos}, nmB S.N i x = true → ownB raw sc x = true → StoN X i (.Name x p) := fun {i x p} h1 h2 => by
    obtain ⟨e1, e2, e3⟩ := nm_of h1
    unfold ownB at h2
    rw [Bool.or_eq_true, Bool.and_eq_true, decide_eq_true_eq, decide_eq_true_eq, decide_eq_true_eq] at h2
    rcases h2 with h2 | ⟨h3, h2⟩
    · have h2' : X.env.scope.names.lookup x = some .local := by rw [ck.sc]; exact h2
      exact ⟨x, p, rfl, by rw [ck.N]; exact e1, pg_name (by rw [ck.N]; exact ck.nd) (by rw [ck.N]; exact e1) (.inl h2') (.inr h2')⟩
    · have h2' : X.env.scope.names.lookup x = some .cell := by rw [ck.sc]; exact h2
      exact ⟨x, p, rfl, by rw [ck.N]; exact e1, pg_name (by rw [ck.N]; exact ck.nd) (by rw [ck.N]; exact e1) (.inr h2') (.inl (hf x h3))⟩
  cases tg with
  | nm i =>
    unfold tgR at h
    split at h
    · rename_i hx; cases hx
      rw [Bool.and_eq_true] at h
      exact one h.1 h.2
    · rename_i hx; cases hx
    · cases h
  | tup is =>
    unfold tgR at h
    split at h
    · rename_i hx; cases hx
    · rename_i is' es k p hx
      cases hx
      rw [Bool.and_eq_true] at h
      refine ⟨es, k, p, rfl, ?_⟩
      obtain ⟨h1, h2⟩ := h
      have h1 : is.length = es.length := by simpa using h1
      clear k p
      induction is generalizing es with
      | nil => cases es with
        | nil => trivial
        | cons _ _ => simp at h1
      | cons i is ih => cases es with
        | nil => simp at h1
        | cons e es =>
          simp only [List.zip_cons_cons, List.all_cons, Bool.and_eq_true] at h2
          refine ⟨?_, ih es (by simpa using h1) h2.2 (by simpa using h1)⟩
          have h3 := h2.1
          split at h3
          · rw [Bool.and_eq_true] at h3
            exact one h3.1 h3.2
          · cases h3
    · cases h
theorem tupR {N : List Str} {raw sc : Scope} {is : List Nat} {e : Expr} (h : tgR N raw sc (.tup is) e = true) : ∃ es k p, e = .Tuple es k p := by
  unfold tgR at h
  split at h
  · rename_i hx; cases hx
  · exact ⟨_, _, _, rfl⟩
  · cases h
theorem tupC {N : List Str} {sc : Scope} {is : List Nat} {e : Expr} (h : tgC N sc (.tup is) e = true) : ∃ es k p, e = .Tuple es k p := by
  unfold tgC at h
  split at h
  · rename_i hx; cases hx
  · exact ⟨_, _, _, rfl⟩
  · cases h
theorem PE.q {K : PySem.W.Frag} (h : PE X a (tE X.K Tl Cv W ea true)) : PE X a (tE X.K Tl Cv W ea false) :=
  PE.imp h fun σ H Q ⟨Z, F, δ, ow, st, h⟩ => ⟨Z, F, δ, ow, st, h.imp fun r δ' h v H' hp => h v H' (hp.weak (Gr.refl _ _) (Same.refl _) (fun e => by cases e))⟩
theorem pe_newK : PE X (.Dict [] [] pos) (tE X.K Tl Cv W (kConst (.own (.dK []))) true) :=
  PE.imp pe_dnewK fun σ H Q ⟨Z, F, δ, ow, st, h⟩ p hp => by
    obtain ⟨n1, n2, n3⟩ := st.new_not hp
    exact h _ _ ⟨Z, upd F p (.dK []), ow, Gr.refl _ _, same_upd n3, st.newF hp (fun ps e => by cases e), ⟨[p], ⟨p, [], rfl, upd_same, trivial, rfl⟩, fun a m => by cases List.mem_singleton.mp m; exact ⟨n2, n3⟩⟩, fun _ => same_upd hp⟩
theorem pe_newT : PE X (.Dict [] [] pos) (tE X.K Tl Cv W (kConst (.own (.dT []))) true) :=
  PE.imp pe_dnewT fun σ H Q ⟨Z, F, δ, ow, st, h⟩ p hp => by
    obtain ⟨n1, n2, n3⟩ := st.new_not hp
    exact h _ _ ⟨Z, upd F p (.dT []), ow, Gr.refl _ _, same_upd n3, st.newF hp (fun ps e => by cases e), ⟨[p], ⟨p, [], rfl, upd_same, trivial, rfl⟩, fun a m => by cases List.mem_singleton.mp m; exact ⟨n2, n3⟩⟩, fun _ => same_upd hp⟩
theorem pt_stuck : PT X a (tT X.K Tl Cv W kStuck) := ⟨fun pins s σ H Q I ⟨Z, F, δ, ow, st, h⟩ => h.elim⟩
theorem ds_len : ∀ {S : Sx} {es : Es} {as : List Expr} {sc : Scope} {call : Str → List Slot → FRes} {δ δ' : Sts} {ds : List D}, chkEs S es sc as = true → evDs call es δ = .ok ds δ' → ds.length = as.length
  | S, .nil, as, sc, call, δ, δ', ds, h, e => by
    unfold chkEs at h
    cases as with
    | nil => cases e; rfl
    | cons _ _ => cases h
  | S, .cons x es, as, sc, call, δ, δ', ds, h, e => by
    unfold chkEs at h
    cases as with
    | nil => cases h
    | cons a as =>
      rw [Bool.and_eq_true] at h
      change kDs (evE call x) (evDs call es) δ = _ at e
      unfold kDs at e
      cases e1 : evE call x δ with
      | ok r δ1 =>
        rw [e1] at e
        change (settle r δ1).bind _ = _ at e
        cases e2 : settle r δ1 with
        | ok d δ2 =>
          rw [e2] at e
          change (evDs call es δ2).bind _ = _ at e
          cases e3 : evDs call es δ2 with
          | ok ds' δ3 =>
            rw [e3] at e
            cases e
            rw [List.length_cons, List.length_cons, ds_len h.2 e3]
          | exc _ _ => rw [e3] at e; cases e
          | stuck => rw [e3] at e; cases e
        | exc _ _ => rw [e2] at e; cases e
        | stuck => rw [e2] at e; cases e
      | exc _ _ => rw [e1] at e; cases e
      | stuck => rw [e1] at e; cases e
/-- isinstance(x, T) -/
theorem isi_reads {K : PySem.W.Frag} {b : Bi} {T : String} {σ : L2.St} {H : Hp} {Q : VK} (h : tE K Tl Cv W (kBi b (kVs true ea (kConst []))) (qa && true) σ H Q) :
    tCB (fun ws H Q => ∃ vs, ws = vs ++ [.ty T] ∧ rBiV K b vs H Q) (tCons (tE K Tl Cv W ea qa) (tCons (tC (.ty T)) tNil)) σ H Q := by
  obtain ⟨Z, F, δ, ow, st, h⟩ := bi_reads h
  refine ⟨Z, F, δ, ow, st, h.bind.imp fun r δ1 h1 x H1 ⟨Z1, F1, ow1, g1, f1, st1, r1, s1⟩ => ?_⟩
  have hi : innOk r true = true := by cases r <;> rfl
  rw [if_pos hi] at h1
  exact ⟨[x], rfl, h1 [x] H1 ⟨Z1, F1, ow1, g1, f1, st1, ⟨r1, trivial⟩, fun e => s1 (by rw [Bool.and_true] at e; exact e)⟩⟩
theorem rbi_or {K : PySem.W.Frag} {b : Bi} {es : M (List RV)} {r : List V → Hp → VK → Prop} {σ : L2.St} {H : Hp} {Q : VK} (hr : ∀ vs H Q, rBiV K b vs H Q → r vs H Q) (h : tE K Tl Cv W (kBi b es) qs σ H Q) : tCB r (tL K Tl Cv W id es qs) σ H Q := by
  obtain ⟨Z, F, δ, ow, st, h⟩ := bi_reads h
  exact ⟨Z, F, δ, ow, st, h.imp fun rs δ' h vs H' hp => hr _ _ _ (h vs H' hp)⟩
theorem pe_kBi (ck : Cok S Tl Cv n sc W X) {b : Bi} {x : Str} {es : M (List RV)} (hx : x = biName b) (h1 : glB sc x = true) (hb : biTy b = none) (oa : okE a = true) (hst : (backTo pos (starEach as X.env)).any (·.1) = false) (hs : PA X (a :: as) (tL X.K Tl Cv W id es qs)) :
    PE X (.Call (.Name x p) (a :: as) [] pos) (tE X.K Tl Cv W (kBi b es) qs) := by
  subst hx
  obtain ⟨g1, g2⟩ := ck.gl h1
  have B : ∀ {id : String} {r : List V → Hp → VK → Prop}, CallR X (.builtin id) r → biName b ∈ bltNames → biName b ≠ "__name__" → bootBuiltins (biName b) = some (.builtin id) → (∀ vs H Q, rBiV X.K b vs H Q → r vs H Q) → PE X (.Call (.Name (biName b) p) (a :: as) [] pos) (tE X.K Tl Cv W (kBi b es) qs) :=
    fun hc hm hn hv hr => PE.imp (pe_callB hc g1 (ck.glo.blt _ hm) hv hs hn g2 (ok_star oa) hst) fun σ H Q h => rbi_or hr h
  have T : ∀ {id : String} {r : List V → Hp → VK → Prop}, CallR X (.type id) r → biName b ∈ bltNames → biName b ≠ "__name__" → bootBuiltins (biName b) = some (.type id) → (∀ vs H Q, rBiV X.K b vs H Q → r vs H Q) → PE X (.Call (.Name (biName b) p) (a :: as) [] pos) (tE X.K Tl Cv W (kBi b es) qs) :=
    fun hc hm hn hv hr => PE.imp (pe_callTy hc g1 (ck.glo.blt _ hm) hv hs hn g2 (ok_star oa) hst) fun σ H Q h => rbi_or hr h
  cases b with
  | len => exact B bi_len (by decide) (by decide) (by decide +kernel) fun _ _ _ h => h
  | all => exact B (bi_all ck.calm) (by decide) (by decide) (by decide +kernel) fun _ _ _ h => h
  | any => exact B (bi_any ck.calm) (by decide) (by decide) (by decide +kernel) fun _ _ _ h => h
  | tuple => exact T bi_tuple (by decide) (by decide) (by decide +kernel) fun _ _ _ h => h
  | list => exact T bi_list (by decide) (by decide) (by decide +kernel) fun _ _ _ h => h
  | sum => exact B (bi_sum ck.calm) (by decide) (by decide) (by decide +kernel) fun _ _ _ h => h
  | min => exact B (bi_min ck.calm) (by decide) (by decide) (by decide +kernel) fun _ _ _ h => .inl h
  | min2 => exact B (bi_min ck.calm) (by decide) (by decide) (by decide +kernel) fun _ _ _ h => .inr h
  | max => exact B (bi_max ck.calm) (by decide) (by decide) (by decide +kernel) fun _ _ _ h => .inl h
  | max2 => exact B (bi_max ck.calm) (by decide) (by decide) (by decide +kernel) fun _ _ _ h => .inr h
  | reprB => exact B bi_reprB (by decide) (by decide) (by decide +kernel) fun _ _ _ h => h
  | sorted => exact B bi_sorted (by decide) (by decide) (by decide +kernel) fun _ _ _ h => h
  | str => exact T bi_str (by decide) (by decide) (by decide +kernel) fun _ _ _ h => h
  | abs => exact B bi_abs (by decide) (by decide) (by decide +kernel) fun _ _ _ h => h
  | int => exact T bi_int (by decide) (by decide) (by decide +kernel) fun _ _ _ h => h
  | isInt => cases hb
  | isBool => cases hb
  | isStr => cases hb
  | isTuple => cases hb
  | isList => cases hb
theorem pe_kIsi (ck : Cok S Tl Cv n sc W X) {b : Bi} {T : String} {x t : Str} (hx : x = biName b) (h1 : glB sc x = true) (hb : biTy b = some T) (ht : t = Str.ofString T) (h2 : glB sc t = true) (oa : okE a = true) {p2 : Pos} (ha : PE X a (tE X.K Tl Cv W ea qa)) :
    PE X (.Call (.Name x p) [a, .Name t p2] [] pos) (tE X.K Tl Cv W (kBi b (kVs true ea (kConst []))) (qa && true)) := by
  subst hx ht
  obtain ⟨g1, g2⟩ := ck.gl h1
  obtain ⟨g3, g4⟩ := ck.gl h2
  have B : bootBuiltins (Str.ofString T) = some (.type T) → Str.ofString T ∈ bltNames → Str.ofString T ≠ "__name__" → biName b = "isinstance" → CallR X (.builtin "isinstance") (fun ws H Q => ∃ vs, ws = vs ++ [.ty T] ∧ rBiV X.K b vs H Q) →
      PE X (.Call (.Name (biName b) p) [a, .Name (Str.ofString T) p2] [] pos) (tE X.K Tl Cv W (kBi b (kVs true ea (kConst []))) (qa && true)) := fun hv hm hn e hc => by
    rw [e] at g1 g2 ⊢
    exact PE.imp (pe_callB hc g1 (ck.glo.blt _ (by decide)) (by decide +kernel) (pa_cons ha (pa_cons (pe_bltn (v := .ty T) g3 (ck.glo.blt _ hm) hv rfl hn g4) pa_nil) (ok_star oa)) (by decide) (by decide) (ok_star oa) rfl) fun σ H Q h => isi_reads h
  cases b with
  | isInt => cases hb; exact B (by decide +kernel) (by decide) (by decide) rfl bi_isInt
  | isBool => cases hb; exact B (by decide +kernel) (by decide) (by decide) rfl bi_isBool
  | isStr => cases hb; exact B (by decide +kernel) (by decide) (by decide) rfl bi_isStr
  | isTuple => cases hb; exact B (by decide +kernel) (by decide) (by decide) rfl bi_isTuple
  | isList => cases hb; exact B (by decide +kernel) (by decide) (by decide) rfl bi_isList
  | _ => cases hb
/-! ### a lambda told -/
/-- all but the tables of code objects stays -/
theorem StR.extN {K : PySem.W.Frag} {Z F : Hp} {δ : Sts} {σ : L2.St} {H H1 : Hp} {ow : Nat → List Addr} (st : StR K Tl Z F δ σ H ow) (e : LamX.ExtN H H1) (t : LamX.Tabs Tl H1) : StR K Tl Z F δ σ H1 ow := by
  have own : ∀ i a, a ∈ ow i → ∀ o, H a = some o → H1 a = some o := fun i a m o ho => e a o ho fun ps z => by
    obtain ⟨o', e1, e2⟩ := st.own m
    rw [ho] at e1
    cases e1
    exact isOwn_ne e2 ps z
  refine ⟨fun a o ho => e a o (st.z _ _ ho) fun ps z => st.nz a ps (by rw [ho, z]), fun a o ho => e a o (st.f _ _ ho) fun ps z => st.nf a ps (by rw [ho, z]), fun i hi => ?_, st.em, st.dj, st.fr, st.ln, t, st.nz, st.nf⟩
  obtain ⟨v, ev, h⟩ := st.sl i hi
  refine ⟨v, ev, ?_⟩
  have ho := own i
  revert h hi ho
  cases getS δ i with
  | scr ns => exact fun _ h ho => h.mono (Same.refl _) ho
  | emp => exact fun h _ => absurd rfl h
  | dat d => exact fun _ h ho => h.mono (Same.refl _) ho
  | lst ds => exact fun _ h ho => h.mono (Same.refl _) ho
  | rows ds => exact fun _ h ho => h.mono (Same.refl _) ho
  | dK ds => exact fun _ h ho => h.mono (Same.refl _) ho
  | dT ds => exact fun _ h ho => h.mono (Same.refl _) ho
  | obj C fs => exact fun _ h _ => h.elim
theorem said_reads {K : PySem.W.Frag} {tbl : List (Str × Str)} {σ : L2.St} {H : Hp} {Q : VK} (h : tE K Tl Cv W (kSaid tbl ea) false σ H Q) :
    LamX.tLam Tl (TTs Cv tbl) (fun E => tE K Tl Cv (fun cls d _ H => E cls d H) ea qa) σ H Q := by
  obtain ⟨Z, F, δ, ow, st, h⟩ := h
  refine ⟨st.tb, fun H1 e t => ⟨Z, F, δ, ow, st.extN e t, ?_⟩⟩
  unfold kSaid at h
  revert h
  cases ea δ with
  | ok r δ' => exact fun h v H' ⟨Z1, F1, ow1, g1, f1, st1, _, _⟩ => h (.str "told") H' ⟨Z1, F1, ow1, g1, f1, st1, .str _, fun e => by cases e⟩
  | exc c δ' =>
    intro h H' ⟨Z1, ow1, g1, st1⟩
    dsimp only at h
    split at h
    · rename_i w e
      exact ⟨rfl, c, w, e, rfl, fun H'' hs => h (.str w) H'' ⟨Z1, F, ow1, g1, Same.refl _, st1.same hs, .str _, fun e => by cases e⟩⟩
    · exact h.elim
  | stuck => exact fun h => h.elim
theorem Cok.lamc (ck : Cok S Tl Cv n sc W X) {A : Around} {outer : List Env} {s : Shared} {H : Hp} {E : XK} {scope : Scope} {f c' : Addr} (hd : A.handled = none) (hr : Room (3 * n) (A.deeper (LamX.lamEnv X scope s.heap.objs.size f c'))) :
    Cok ⟨S.T, S.GT, S.DT, S.CT, S.N, none⟩ Tl Cv n scope (fun cls d _ H => E cls d H) (LamX.lamCx X A outer s H E scope f c') where
  N := ck.N
  sc := rfl
  nd := ck.nd
  calm := rfl
  tk := takes_of rfl rfl rfl rfl
  room := hr
  lam := fun f tbl h => by cases h
  glo := ⟨ck.glo.fns, ck.glo.cst, ck.glo.dct, ck.glo.blt, ck.glo.exc, ck.glo.fnp⟩
theorem lam_bind {q : Str} {params : Arguments} {body : Expr} {scope : Scope} {cl : List (Str × Addr)} {pm cv ctv : Value} (h : lamArgs params = true) : bindArgs (PySem.W.kla_fn "<lambda>" q params body scope cl pm cv ctv) ⟨[], []⟩ = pure [] := by
  unfold lamArgs at h
  split at h
  · rfl
  · cases h
theorem pe_kSaid (ck : Cok S Tl Cv n sc W X) {f x : Str} {tbl : List (Str × Str)} {params : Arguments} {body : Expr} {scope : Scope} {lp : Pos} (h1 : S.L = some (f, tbl)) (h2 : x = f) (h3 : glB sc x = true) (h4 : lamArgs params = true) (h5 : LamX.lamSB sc scope = true)
    (hb : ∀ {W' : WX} {X' : Cx}, Cok ⟨S.T, S.GT, S.DT, S.CT, S.N, none⟩ Tl Cv n scope W' X' → PE X' body (tE X'.K Tl Cv W' ea qa)) :
    PE X (.Call (.Name x p) [.Lambda params body scope lp] [] pos) (tE X.K Tl Cv W (kSaid tbl ea) false) := by
  subst h2
  obtain ⟨room, ⟨c, P, tb, hcode, hmT, hu⟩, g, pg, bg, sg, dV, kV, doc, pm, cdv, ct, oc, an, od, osl, Ng, a, hm, hk, lk, hcg, hbd, Sg, hNg, hva, hd, hcd, hG⟩ := ck.lam x tbl h1
  obtain ⟨g1, g2⟩ := ck.gl h3
  have hdef : defaultsOf params X.env = ([], []) := by
    unfold lamArgs at h4
    split at h4
    · rfl
    · cases h4
  exact PE.imp (LamX.pe_lamcall (T := Tl) (TT := TTs Cv tbl) (k := 3 * n) (t := fun E => tE X.K Tl Cv (fun cls d _ H => E cls d H) ea qa) g1 hm hk lk hcg hbd Sg hNg hva (hG X _ rfl rfl room.hd) tb hcode hmT hu room (LamX.lamS_by (by rw [ck.sc]; exact h5)) hdef
    (fun q cl pm cv ctv => lam_bind h4) (fun A outer s H E f' c' hr => hb (ck.lamc hr.hd hr)) g2 hd hcd) fun σ H Q h => said_reads h
end
end Ev

set_option Elab.async false
set_option linter.all false
set_option maxRecDepth 100000
set_option maxHeartbeats 4000000
/-! Every expression. -/
namespace Ev
open PySem PySem.Spec PyProof.Rows L2
section
variable {Tl : List (Addr × Str)} {Cv : Str → Value} {n : Nat}
theorem and_eq {a b : Bool} (h : (a && b) = true) : a = true ∧ b = true := by rwa [Bool.and_eq_true] at h
theorem okLen_le' {n : Nat} (h : okLen n = true) : n ≤ sizeLine := okLen_le h
def isBO : Expr → Bool
  | .BoolOp _ _ _ => true
  | _ => false
theorem chkI_fold {S : Sx} {it : It} {sc : Scope} {a : Expr} {env : Env} (h : chkI S it sc a = true) (x : Value) : foldedSetIterable a env x = pure x := by
  cases it <;> unfold chkI at h
  · exact ok_fold (chk_ok h) x
  all_goals (first | exact ok_fold (chk_ok h) x | (split at h <;> first | rfl | cases h))
theorem itTg_nm {it : It} {i : Nat} (h : itTg it (.nm 0) = false) : itTg it (.nm i) = false := by
  cases it <;> first | rfl | cases h
mutual
theorem sE : ∀ (e : E) {S : Sx} {sc : Scope} {W : WX} {X : Cx} {a : Expr}, Cok S Tl Cv n sc W X → chkE S e sc a = true → PE X a (tE X.K Tl Cv W (evE (evF S.T n) e) e.quiet)
  | .var i, S, sc, W, X, a, ck, h => by
    unfold chkE at h
    split at h
    · obtain ⟨h1, h2⟩ := and_eq h
      exact pe_kVar ck h1 h2
    · cases h
  | .cst d, S, sc, W, X, a, ck, h => by
    unfold chkE at h
    split at h
    · exact pe_cst h
    · cases h
  | .glb x d, S, sc, W, X, a, ck, h => by
    unfold chkE at h
    split at h
    · obtain ⟨h1, h3⟩ := and_eq h
      obtain ⟨h1, h2⟩ := and_eq h1
      have h1 := of_decide_eq_true h1
      subst h1
      split at h3
      · rename_i d' e
        exact pe_glbc ck h2 e h3
      · cases h3
    · cases h
  | .tup es, S, sc, W, X, a, ck, h => by
    unfold chkE at h
    split at h
    · obtain ⟨h1, h2⟩ := and_eq h
      exact pe_kTup (sDs es ck h1) fun δ ds δ' e => by rw [ds_len h1 e]; exact okLen_le h2
    · cases h
  | .lst es, S, sc, W, X, a, ck, h => by
    unfold chkE at h
    split at h
    · obtain ⟨h1, h2⟩ := and_eq h
      exact pe_kLst (sDs es ck h1) fun δ ds δ' e => by rw [ds_len h1 e]; exact okLen_le h2
    · cases h
  | .newK, S, sc, W, X, a, ck, h => by
    unfold chkE at h
    split at h
    · exact pe_newK
    · cases h
  | .newT, S, sc, W, X, a, ck, h => by
    unfold chkE at h
    split at h
    · exact pe_newT
    · cases h
  | .bin op x y, S, sc, W, X, a, ck, h => by
    unfold chkE at h
    split at h
    · obtain ⟨h1, h3⟩ := and_eq h
      obtain ⟨h1, h2⟩ := and_eq h1
      have h1 := of_decide_eq_true h1
      subst h1
      exact pe_kOp (sE x ck h2) (sE y ck h3)
    · cases h
  | .cmp op x y, S, sc, W, X, a, ck, h => by
    unfold chkE at h
    split at h
    · obtain ⟨h1, h3⟩ := and_eq h
      obtain ⟨h1, h2⟩ := and_eq h1
      have h1 := of_decide_eq_true h1
      subst h1
      exact pe_kCmp ck (sE x ck h2) (sE y ck h3) (chk_ok h3)
    · cases h
  | .chain o1 o2 x y z, S, sc, W, X, a, ck, h => by
    unfold chkE at h
    split at h
    · obtain ⟨h1, h5⟩ := and_eq h
      obtain ⟨h1, h4⟩ := and_eq h1
      obtain ⟨h1, h3⟩ := and_eq h1
      obtain ⟨h1, h2⟩ := and_eq h1
      have h1 := of_decide_eq_true h1
      have h2 := of_decide_eq_true h2
      subst h1 h2
      exact pe_kChain ck (sE x ck h3) (sE y ck h4) (sE z ck h5) (chk_ok h5)
    · cases h
  | .and x y, S, sc, W, X, a, ck, h => by
    unfold chkE at h
    split at h
    · obtain ⟨h1, h2⟩ := and_eq h
      exact pe_kAnd (sE x ck h1) (pe_one (sE y ck h2))
    · obtain ⟨h1, h2⟩ := and_eq h
      exact pe_kAnd (sE x ck h1) (sE y ck h2)
    · cases h
  | .or x y, S, sc, W, X, a, ck, h => by
    unfold chkE at h
    split at h
    · obtain ⟨h1, h2⟩ := and_eq h
      exact pe_kOr (sE x ck h1) (pe_one (sE y ck h2))
    · obtain ⟨h1, h2⟩ := and_eq h
      exact pe_kOr (sE x ck h1) (sE y ck h2)
    · cases h
  | .not x, S, sc, W, X, a, ck, h => by
    unfold chkE at h
    split at h
    · exact pe_kNot (sE x ck h)
    · cases h
  | .ite c x y, S, sc, W, X, a, ck, h => by
    unfold chkE at h
    split at h
    · obtain ⟨h1, h3⟩ := and_eq h
      obtain ⟨h1, h2⟩ := and_eq h1
      exact pe_kIte (sT c ck h1).1 (sE x ck h2) (sE y ck h3)
    · cases h
  | .neg x, S, sc, W, X, a, ck, h => by
    unfold chkE at h
    split at h
    · exact pe_kNeg (sE x ck h)
    · cases h
  | .sub x i, S, sc, W, X, a, ck, h => by
    unfold chkE at h
    split at h
    · obtain ⟨h1, h2⟩ := and_eq h
      exact pe_kSub ck (sE x ck h1) (sE i ck h2) (chk_ok h2)
    · cases h
  | .slice x lo hi, S, sc, W, X, a, ck, h => by
    unfold chkE at h
    split at h
    · obtain ⟨h1, h3⟩ := and_eq h
      obtain ⟨h1, h2⟩ := and_eq h1
      exact pe_kSlice (sE x ck h1) (sO lo ck h2) (sO hi ck h3)
    · cases h
  | .call f es, S, sc, W, X, a, ck, h => by
    unfold chkE at h
    split at h
    · obtain ⟨h1, h4⟩ := and_eq h
      obtain ⟨h1, h3⟩ := and_eq h1
      obtain ⟨h1, h2⟩ := and_eq h1
      have h1 := of_decide_eq_true h1
      subst h1
      split at h3
      · rename_i e
        obtain ⟨q, pa⟩ := sRs es ck h4
        cases es with
        | nil => unfold chkEs at h4; cases h4
        | cons e1 es =>
          unfold chkEs at h4
          obtain ⟨h5, h6⟩ := and_eq h4
          exact pe_kCall ck h2 e pa (chk_ok h5) (star_any h6)
      · cases h3
    · cases h
  | .bi b es, S, sc, W, X, a, ck, h => by
    unfold chkE at h
    split at h
    · obtain ⟨h1, h3⟩ := and_eq h
      obtain ⟨h1, h2⟩ := and_eq h1
      have h1 := of_decide_eq_true h1
      split at h3
      · rename_i T hb
        split at h3
        · obtain ⟨h8, h5⟩ := and_eq h3
          obtain ⟨h9, h4⟩ := and_eq h8
          cases es with
          | nil => unfold chkEs at h5; cases h5
          | cons e1 es =>
            unfold chkEs at h5
            obtain ⟨h6, h7⟩ := and_eq h5
            cases es with
            | cons _ _ => unfold chkEs at h7; cases h7
            | nil => exact pe_kIsi ck h1 h2 hb (of_decide_eq_true h9) h4 (chk_ok h6) (sE e1 ck h6)
        · cases h3
      · rename_i hb
        have pa := sVs es ck h3
        cases es with
        | nil => unfold chkEs at h3; cases h3
        | cons e1 es =>
          unfold chkEs at h3
          obtain ⟨h5, h6⟩ := and_eq h3
          exact pe_kBi ck h1 h2 hb (chk_ok h5) (star_any h6) pa
    · cases h
  | .comp own tg it cs elt, S, sc, W, X, a, ck, h => by
    unfold chkE at h
    split at h
    · rename_i el tx ix ifs scope _
      obtain ⟨h, h8⟩ := and_eq h
      obtain ⟨h, h7⟩ := and_eq h
      obtain ⟨h, h6⟩ := and_eq h
      obtain ⟨h, h5⟩ := and_eq h
      obtain ⟨h, h4⟩ := and_eq h
      obtain ⟨h, h3⟩ := and_eq h
      obtain ⟨h1, h2⟩ := and_eq h
      have hin : ∀ i ∈ tg.ix, i ∈ own := fun i hi => by simpa using List.all_eq_true.mp h3 i hi
      have pif : ∀ {X' : Cx}, Cok S Tl Cv n (relS scope sc) W0 X' → PTs X' ifs (tT X'.K Tl Cv W0 (evCs (evF S.T n) cs)) := fun {X'} ck' => by
        split at h7
        · cases cs with
          | nil => exact ⟨fun pins s σ H Q I ⟨Z, F, δ, ow, st, hq⟩ => pts_nil.run pins s σ H Q I (hq H ⟨Z, ow, Gr.refl _ _, st⟩)⟩
          | cons _ _ => unfold chkEs at h7; cases h7
        · cases cs with
          | nil => unfold chkEs at h7; cases h7
          | cons c cs =>
            unfold chkEs at h7
            obtain ⟨h9, h10⟩ := and_eq h7
            cases cs with
            | cons _ _ => unfold chkEs at h10; cases h10
            | nil =>
              have hc := (sT c ck' h9).1
              refine ⟨fun pins s σ H Q I hq => (pts_one hc).run pins s σ H Q I ?_⟩
              obtain ⟨Z, F, δ, ow, st, hq⟩ := hq
              refine ⟨Z, F, δ, ow, st, RP.imp (RP.bind hq) fun b δ1 h1 H1 hp => ?_⟩
              cases b <;> exact h1 H1 hp
        · cases h7
      exact pe_kComp ck hin h1 (sI it ck h6 fun e => by
        cases tg with
        | nm i => rw [itTg_nm e] at h4; cases h4
        | tup is => exact tupR h2) (chkI_fold h6) (fun s H C cl fp => tgR_sto ck.blk (fun x hx => by show (scope.names.lookup x == some .cell) = true; rw [hx]; rfl) h2) (fun s H C cl fp => pif ck.blk) (fun s H C cl fp => sE elt ck.blk h8)
    · cases h
  | .compR own tg it elt, S, sc, W, X, a, ck, h => by
    unfold chkE at h
    split at h
    · rename_i el tx ix scope _
      obtain ⟨h, h8⟩ := and_eq h
      obtain ⟨h, h6⟩ := and_eq h
      obtain ⟨h, h5⟩ := and_eq h
      obtain ⟨h, h4⟩ := and_eq h
      obtain ⟨h, h3⟩ := and_eq h
      obtain ⟨h1, h2⟩ := and_eq h
      have hin : ∀ i ∈ tg.ix, i ∈ own := fun i hi => by simpa using List.all_eq_true.mp h3 i hi
      exact pe_kCompR ck hin h1 (sI it ck h6 fun e => by
        cases tg with
        | nm i => rw [itTg_nm e] at h4; cases h4
        | tup is => exact tupR h2) (chkI_fold h6) (fun s H C cl fp => tgR_sto ck.blk (fun x hx => by show (scope.names.lookup x == some .cell) = true; rw [hx]; rfl) h2) (fun s H C cl fp => sE elt ck.blk h8)
    · cases h
  | .gdict x i kvs, S, sc, W, X, a, ck, h => by
    unfold chkE at h
    split at h
    · obtain ⟨h, h4⟩ := and_eq h
      obtain ⟨h, h3⟩ := and_eq h
      obtain ⟨h1, h2⟩ := and_eq h
      have h1 := of_decide_eq_true h1
      subst h1
      split at h3
      · rename_i k e
        exact pe_kGd ck h2 e h3 (sE i ck h4) (chk_ok h4)
      · cases h3
    · cases h
  | .ingdict neg x i kvs, S, sc, W, X, a, ck, h => by
    unfold chkE at h
    split at h
    · obtain ⟨h, h5⟩ := and_eq h
      obtain ⟨h, h4⟩ := and_eq h
      obtain ⟨h, h3⟩ := and_eq h
      obtain ⟨h1, h2⟩ := and_eq h
      have h1 := of_decide_eq_true h1
      have h2 := of_decide_eq_true h2
      subst h1 h2
      split at h4
      · rename_i k e
        exact pe_kInG ck h3 e h4 (sE i ck h5)
      · cases h4
    · cases h
  | .pop i, S, sc, W, X, a, ck, h => by
    unfold chkE at h
    split at h
    · obtain ⟨h, h4⟩ := and_eq h
      obtain ⟨h, h3⟩ := and_eq h
      obtain ⟨h1, h2⟩ := and_eq h
      have h1 := of_decide_eq_true h1
      subst h1
      exact pe_kPop ck h2 h3 h4
    · cases h
  | .said f tbl e, S, sc, W, X, a, ck, h => by
    unfold chkE at h
    split at h
    · rename_i x p params body scope lp pos
      obtain ⟨h, h6⟩ := and_eq h
      obtain ⟨h, h5⟩ := and_eq h
      obtain ⟨h, h4⟩ := and_eq h
      obtain ⟨h, h3⟩ := and_eq h
      obtain ⟨h1, h2⟩ := and_eq h
      exact pe_kSaid ck (of_decide_eq_true h1) (of_decide_eq_true h2) h3 h4 h5 fun ck' => sE (S := ⟨S.T, S.GT, S.DT, S.CT, S.N, none⟩) e ck' h6
    · cases h
  | .join x s e, S, sc, W, X, a, ck, h => by
    unfold chkE at h
    split at h
    · rename_i o m ap b cp
      obtain ⟨h, h4⟩ := and_eq h
      obtain ⟨h, h3⟩ := and_eq h
      obtain ⟨h1, h2⟩ := and_eq h
      have h1 := of_decide_eq_true h1
      subst h1
      split at h3
      · have h3 := of_decide_eq_true h3
        subst h3
        exact pe_kJoin pe_str rfl h2 (chk_ok h4) (sE e ck h4)
      · obtain ⟨h3, h6⟩ := and_eq h3
        obtain ⟨h5, h3⟩ := and_eq h3
        have h5 := of_decide_eq_true h5
        subst h5
        split at h6
        · rename_i es
          have h6 := of_decide_eq_true h6
          subst h6
          obtain ⟨u, hm, t, hu⟩ := ck.glo.cst _ _ es
          subst hu
          obtain ⟨g1, g2⟩ := ck.gl h3
          exact pe_kJoin (pe_glob (v := .str _) g1 hm ⟨_, rfl⟩ g2) rfl h2 (chk_ok h4) (sE e ck h4)
        · cases h6
      · cases h3
    · cases h
  | .split s e, S, sc, W, X, a, ck, h => by
    unfold chkE at h
    split at h
    · obtain ⟨h, h5⟩ := and_eq h
      obtain ⟨h, h4⟩ := and_eq h
      obtain ⟨h, h3⟩ := and_eq h
      obtain ⟨h1, h2⟩ := and_eq h
      have h1 := of_decide_eq_true h1
      have h3 := of_decide_eq_true h3
      subst h1 h3
      refine pe_kSplit (base_ok fun x q p e => ?_) h2 (sE e ck h5)
      subst e
      cases h4
    · cases h
  | .rev e, S, sc, W, X, a, ck, h => by
    unfold chkE at h
    split at h
    · obtain ⟨h1, h2⟩ := and_eq h
      have h1 := of_decide_eq_true h1
      subst h1
      exact pe_kRev (sE e ck h2)
    · cases h
  | .disp1 k v, S, sc, W, X, a, ck, h => by
    unfold chkE at h
    split at h
    · obtain ⟨h1, h2⟩ := and_eq h
      exact pe_kDisp1 (sE k ck h1) (sE v ck h2)
    · cases h
  | .get2 i k d, S, sc, W, X, a, ck, h => by
    unfold chkE at h
    split at h
    · obtain ⟨h, h6⟩ := and_eq h
      obtain ⟨h, h5⟩ := and_eq h
      obtain ⟨h, h4⟩ := and_eq h
      obtain ⟨h, h3⟩ := and_eq h
      obtain ⟨h1, h2⟩ := and_eq h
      have h1 := of_decide_eq_true h1
      subst h1
      exact pe_kGet2 ck h2 h3 h4 (chk_ok h5) (chk_ok h6) (sE k ck h5) (sE d ck h6)
    · cases h
  | .get1 i k, S, sc, W, X, a, ck, h => by
    unfold chkE at h
    split at h
    · obtain ⟨h, h5⟩ := and_eq h
      obtain ⟨h, h4⟩ := and_eq h
      obtain ⟨h, h3⟩ := and_eq h
      obtain ⟨h1, h2⟩ := and_eq h
      have h1 := of_decide_eq_true h1
      subst h1
      exact pe_kGet1 ck h2 h3 h4 (chk_ok h5) (sE k ck h5)
    · cases h
  | .zipl x y, S, sc, W, X, a, ck, h => by
    unfold chkE at h
    split at h
    · obtain ⟨h, h6⟩ := and_eq h
      obtain ⟨h, h5⟩ := and_eq h
      obtain ⟨h, h4⟩ := and_eq h
      obtain ⟨h, h3⟩ := and_eq h
      obtain ⟨h1, h2⟩ := and_eq h
      exact pe_kZipl ck (of_decide_eq_true h1) (of_decide_eq_true h3) h2 h4 (chk_ok h5) (chk_ok h6) (sE x ck h5) (sE y ck h6)
    · cases h
termination_by structural e => e
theorem sT : ∀ (e : E) {S : Sx} {sc : Scope} {W : WX} {X : Cx} {a : Expr}, Cok S Tl Cv n sc W X → chkE S e sc a = true → PT X a (tT X.K Tl Cv W (evT (evF S.T n) e)) ∧ (isBO a = true → PW X a (tT X.K Tl Cv W (evT (evF S.T n) e)))
  | .and x y, S, sc, W, X, a, ck, h => by
    unfold chkE at h
    split at h
    · obtain ⟨h1, h2⟩ := and_eq h
      have := pw_kAnd (pos := by assumption) (sT x ck h1).1 (pw_and1 (sT y ck h2).1)
      exact ⟨this.pt, fun _ => this⟩
    · obtain ⟨h1, h2⟩ := and_eq h
      have := pw_kAnd (sT x ck h1).1 ((sT y ck h2).2 rfl)
      exact ⟨this.pt, fun _ => this⟩
    · cases h
  | .or x y, S, sc, W, X, a, ck, h => by
    unfold chkE at h
    split at h
    · obtain ⟨h1, h2⟩ := and_eq h
      have := pw_kOr (pos := by assumption) (sT x ck h1).1 (pw_or1 (sT y ck h2).1)
      exact ⟨this.pt, fun _ => this⟩
    · obtain ⟨h1, h2⟩ := and_eq h
      have := pw_kOr (sT x ck h1).1 ((sT y ck h2).2 rfl)
      exact ⟨this.pt, fun _ => this⟩
    · cases h
  | .not x, S, sc, W, X, a, ck, h => by
    unfold chkE at h
    split at h
    · exact ⟨pt_kNot (sT x ck h).1, fun e => by cases e⟩
    · cases h
  | .cmp op x y, S, sc, W, X, a, ck, h => by
    unfold chkE at h
    split at h
    · obtain ⟨h1, h3⟩ := and_eq h
      obtain ⟨h1, h2⟩ := and_eq h1
      have h1 := of_decide_eq_true h1
      subst h1
      exact ⟨pt_kCmp ck (sE x ck h2) (sE y ck h3) (chk_ok h3), fun e => by cases e⟩
    · cases h
  | .chain o1 o2 x y z, S, sc, W, X, a, ck, h => by
    unfold chkE at h
    split at h
    · obtain ⟨h1, h5⟩ := and_eq h
      obtain ⟨h1, h4⟩ := and_eq h1
      obtain ⟨h1, h3⟩ := and_eq h1
      obtain ⟨h1, h2⟩ := and_eq h1
      have h1 := of_decide_eq_true h1
      have h2 := of_decide_eq_true h2
      subst h1 h2
      exact ⟨pt_kChain ck (sE x ck h3) (sE y ck h4) (sE z ck h5) (chk_ok h5), fun e => by cases e⟩
    · cases h
  | .var i, S, sc, W, X, a, ck, h => by
    unfold chkE at h
    split at h
    · obtain ⟨h1, h2⟩ := and_eq h
      exact ⟨pt_kTest (pe_kVar ck h1 h2) fun _ => rfl, fun e => by cases e⟩
    · cases h
  | .call f es, S, sc, W, X, a, ck, h => by
    unfold chkE at h
    split at h
    · obtain ⟨h1, h4⟩ := and_eq h
      obtain ⟨h1, h3⟩ := and_eq h1
      obtain ⟨h1, h2⟩ := and_eq h1
      have h1 := of_decide_eq_true h1
      subst h1
      split at h3
      · rename_i e
        obtain ⟨q, pa⟩ := sRs es ck h4
        cases es with
        | nil => unfold chkEs at h4; cases h4
        | cons e1 es =>
          unfold chkEs at h4
          obtain ⟨h5, h6⟩ := and_eq h4
          exact ⟨pt_kTest (pe_kCall ck h2 e pa (chk_ok h5) (star_any h6)) fun _ => rfl, fun e => by cases e⟩
      · cases h3
    · cases h
  | .bi b es, S, sc, W, X, a, ck, h => by
    unfold chkE at h
    split at h
    · obtain ⟨h1, h3⟩ := and_eq h
      obtain ⟨h1, h2⟩ := and_eq h1
      have h1 := of_decide_eq_true h1
      split at h3
      · rename_i T hb
        split at h3
        · obtain ⟨h8, h5⟩ := and_eq h3
          obtain ⟨h9, h4⟩ := and_eq h8
          cases es with
          | nil => unfold chkEs at h5; cases h5
          | cons e1 es =>
            unfold chkEs at h5
            obtain ⟨h6, h7⟩ := and_eq h5
            cases es with
            | cons _ _ => unfold chkEs at h7; cases h7
            | nil => exact ⟨pt_kTest (pe_kIsi ck h1 h2 hb (of_decide_eq_true h9) h4 (chk_ok h6) (sE e1 ck h6)) fun _ => rfl, fun e => by cases e⟩
        · cases h3
      · rename_i hb
        have pa := sVs es ck h3
        cases es with
        | nil => unfold chkEs at h3; cases h3
        | cons e1 es =>
          unfold chkEs at h3
          obtain ⟨h5, h6⟩ := and_eq h3
          exact ⟨pt_kTest (pe_kBi ck h1 h2 hb (chk_ok h5) (star_any h6) pa) fun _ => rfl, fun e => by cases e⟩
    · cases h
  | .sub x i, S, sc, W, X, a, ck, h => by
    unfold chkE at h
    split at h
    · obtain ⟨h1, h2⟩ := and_eq h
      exact ⟨pt_kTest (pe_kSub ck (sE x ck h1) (sE i ck h2) (chk_ok h2)) fun _ => rfl, fun e => by cases e⟩
    · cases h
  | .ingdict neg x i kvs, S, sc, W, X, a, ck, h => by
    unfold chkE at h
    split at h
    · obtain ⟨h, h5⟩ := and_eq h
      obtain ⟨h, h4⟩ := and_eq h
      obtain ⟨h, h3⟩ := and_eq h
      obtain ⟨h1, h2⟩ := and_eq h
      have h1 := of_decide_eq_true h1
      have h2 := of_decide_eq_true h2
      subst h1 h2
      split at h4
      · rename_i k e
        exact ⟨pt_kInG ck h3 e h4 (sE i ck h5), fun e => by cases e⟩
      · cases h4
    · cases h
  | .cst d, S, sc, W, X, a, ck, h => ⟨pt_stuck, fun e => by unfold chkE at h; split at h <;> first | cases e | cases h⟩
  | .glb x d, S, sc, W, X, a, ck, h => ⟨pt_stuck, fun e => by unfold chkE at h; split at h <;> first | cases e | cases h⟩
  | .tup es, S, sc, W, X, a, ck, h => ⟨pt_stuck, fun e => by unfold chkE at h; split at h <;> first | cases e | cases h⟩
  | .lst es, S, sc, W, X, a, ck, h => ⟨pt_stuck, fun e => by unfold chkE at h; split at h <;> first | cases e | cases h⟩
  | .newK, S, sc, W, X, a, ck, h => ⟨pt_stuck, fun e => by unfold chkE at h; split at h <;> first | cases e | cases h⟩
  | .newT, S, sc, W, X, a, ck, h => ⟨pt_stuck, fun e => by unfold chkE at h; split at h <;> first | cases e | cases h⟩
  | .bin op x y, S, sc, W, X, a, ck, h => ⟨pt_stuck, fun e => by unfold chkE at h; split at h <;> first | cases e | cases h⟩
  | .ite c x y, S, sc, W, X, a, ck, h => ⟨pt_stuck, fun e => by unfold chkE at h; split at h <;> first | cases e | cases h⟩
  | .neg x, S, sc, W, X, a, ck, h => ⟨pt_stuck, fun e => by unfold chkE at h; split at h <;> first | cases e | cases h⟩
  | .slice x lo hi, S, sc, W, X, a, ck, h => ⟨pt_stuck, fun e => by unfold chkE at h; split at h <;> first | cases e | cases h⟩
  | .comp own tg it cs elt, S, sc, W, X, a, ck, h => ⟨pt_stuck, fun e => by unfold chkE at h; split at h <;> first | cases e | cases h⟩
  | .compR own tg it elt, S, sc, W, X, a, ck, h => ⟨pt_stuck, fun e => by unfold chkE at h; split at h <;> first | cases e | cases h⟩
  | .gdict x i kvs, S, sc, W, X, a, ck, h => ⟨pt_stuck, fun e => by unfold chkE at h; split at h <;> first | cases e | cases h⟩
  | .pop i, S, sc, W, X, a, ck, h => ⟨pt_stuck, fun e => by unfold chkE at h; split at h <;> first | cases e | cases h⟩
  | .said f tbl e, S, sc, W, X, a, ck, h => ⟨pt_stuck, fun e => by unfold chkE at h; split at h <;> first | cases e | cases h⟩
  | .join x s y, S, sc, W, X, a, ck, h => ⟨pt_stuck, fun e => by unfold chkE at h; split at h <;> first | cases e | cases h⟩
  | .split s y, S, sc, W, X, a, ck, h => ⟨pt_stuck, fun e => by unfold chkE at h; split at h <;> first | cases e | cases h⟩
  | .rev y, S, sc, W, X, a, ck, h => ⟨pt_stuck, fun e => by unfold chkE at h; split at h <;> first | cases e | cases h⟩
  | .disp1 k v, S, sc, W, X, a, ck, h => ⟨pt_stuck, fun e => by unfold chkE at h; split at h <;> first | cases e | cases h⟩
  | .get2 i k d, S, sc, W, X, a, ck, h => ⟨pt_stuck, fun e => by unfold chkE at h; split at h <;> first | cases e | cases h⟩
  | .get1 i k, S, sc, W, X, a, ck, h => ⟨pt_stuck, fun e => by unfold chkE at h; split at h <;> first | cases e | cases h⟩
  | .zipl x y, S, sc, W, X, a, ck, h => ⟨pt_stuck, fun e => by unfold chkE at h; split at h <;> first | cases e | cases h⟩
termination_by structural e => e
theorem sDs : ∀ (es : Es) {S : Sx} {sc : Scope} {W : WX} {X : Cx} {as : List Expr}, Cok S Tl Cv n sc W X → chkEs S es sc as = true → PA X as (tL X.K Tl Cv W dats (evDs (evF S.T n) es) es.quiet)
  | .nil, S, sc, W, X, as, ck, h => by
    unfold chkEs at h
    cases as with
    | nil => exact pa_nilL rfl
    | cons _ _ => cases h
  | .cons e es, S, sc, W, X, as, ck, h => by
    unfold chkEs at h
    cases as with
    | nil => cases h
    | cons a as =>
      obtain ⟨h1, h2⟩ := and_eq h
      exact pa_kDs (chk_ok h1) (sE e ck h1) (sDs es ck h2)
termination_by structural es => es
theorem sVs : ∀ (es : Es) {S : Sx} {sc : Scope} {W : WX} {X : Cx} {as : List Expr}, Cok S Tl Cv n sc W X → chkEs S es sc as = true → PA X as (tL X.K Tl Cv W id (evVs (evF S.T n) es) es.quiet)
  | .nil, S, sc, W, X, as, ck, h => by
    unfold chkEs at h
    cases as with
    | nil => exact pa_nilL rfl
    | cons _ _ => cases h
  | .cons e es, S, sc, W, X, as, ck, h => by
    unfold chkEs at h
    cases as with
    | nil => cases h
    | cons a as =>
      obtain ⟨h1, h2⟩ := and_eq h
      exact pa_kVs (chk_ok h1) (sE e ck h1) (sVs es ck h2)
termination_by structural es => es
theorem sRs : ∀ (es : Es) {S : Sx} {sc : Scope} {W : WX} {X : Cx} {as : List Expr}, Cok S Tl Cv n sc W X → chkEs S es sc as = true → ∃ q, PA X as (tL X.K Tl Cv W id (evRs (evF S.T n) es) q)
  | .nil, S, sc, W, X, as, ck, h => by
    unfold chkEs at h
    cases as with
    | nil => exact ⟨true, pa_nilL rfl⟩
    | cons _ _ => cases h
  | .cons e es, S, sc, W, X, as, ck, h => by
    unfold chkEs at h
    cases as with
    | nil => cases h
    | cons a as =>
      obtain ⟨h1, h2⟩ := and_eq h
      obtain ⟨q, pa⟩ := sRs es ck h2
      exact ⟨false, pa_kRs (chk_ok h1) (sE e ck h1) pa⟩
termination_by structural es => es
theorem sO : ∀ (o : O) {S : Sx} {sc : Scope} {W : WX} {X : Cx} {a : Option Expr}, Cok S Tl Cv n sc W X → chkO S o sc a = true → PO X a (tOr' X.K Tl Cv W (evO (evF S.T n) o))
  | .none, S, sc, W, X, a, ck, h => by
    unfold chkO at h
    cases a with
    | none => exact po_kNone
    | some _ => cases h
  | .some e, S, sc, W, X, a, ck, h => by
    unfold chkO at h
    cases a with
    | none => cases h
    | some a => exact po_kO (sE e ck h)
termination_by structural o => o
theorem sI : ∀ (it : It) {S : Sx} {sc : Scope} {W : WX} {X : Cx} {tx a : Expr}, Cok S Tl Cv n sc W X → chkI S it sc a = true → (itTg it (.nm 0) = false → ∃ es k p, tx = .Tuple es k p) → PI X tx a (tI X.K Tl Cv W (evI (evF S.T n) it))
  | .seq e, S, sc, W, X, tx, a, ck, h, ht => by
    unfold chkI at h
    exact pi_seq (sE e ck h)
  | .range1 x, S, sc, W, X, tx, a, ck, h, ht => by
    unfold chkI at h
    split at h
    · obtain ⟨h, h3⟩ := and_eq h
      obtain ⟨h1, h2⟩ := and_eq h
      exact pi_kR1 ck (of_decide_eq_true h1) h2 (chk_ok h3) (sE x ck h3)
    · cases h
  | .range2 x y, S, sc, W, X, tx, a, ck, h, ht => by
    unfold chkI at h
    split at h
    · obtain ⟨h, h4⟩ := and_eq h
      obtain ⟨h, h3⟩ := and_eq h
      obtain ⟨h1, h2⟩ := and_eq h
      exact pi_kR2 ck (of_decide_eq_true h1) h2 (chk_ok h3) (chk_ok h4) (sE x ck h3) (sE y ck h4)
    · cases h
  | .range3 x y z, S, sc, W, X, tx, a, ck, h, ht => by
    unfold chkI at h
    split at h
    · obtain ⟨h, h5⟩ := and_eq h
      obtain ⟨h, h4⟩ := and_eq h
      obtain ⟨h, h3⟩ := and_eq h
      obtain ⟨h1, h2⟩ := and_eq h
      exact pi_kR3 ck (of_decide_eq_true h1) h2 (chk_ok h3) (chk_ok h4) (chk_ok h5) (sE x ck h3) (sE y ck h4) (sE z ck h5)
    · cases h
  | .enum x, S, sc, W, X, tx, a, ck, h, ht => by
    unfold chkI at h
    split at h
    · obtain ⟨h, h3⟩ := and_eq h
      obtain ⟨h1, h2⟩ := and_eq h
      obtain ⟨es, k, p, e⟩ := ht rfl
      subst e
      exact pi_kEnum ck (of_decide_eq_true h1) h2 (chk_ok h3) (sE x ck h3)
    · cases h
  | .zip x y, S, sc, W, X, tx, a, ck, h, ht => by
    unfold chkI at h
    split at h
    · obtain ⟨h, h4⟩ := and_eq h
      obtain ⟨h, h3⟩ := and_eq h
      obtain ⟨h1, h2⟩ := and_eq h
      obtain ⟨es, k, p, e⟩ := ht rfl
      subst e
      exact pi_kZip ck (of_decide_eq_true h1) h2 (chk_ok h3) (chk_ok h4) (sE x ck h3) (sE y ck h4)
    · cases h
  | .keys e, S, sc, W, X, tx, a, ck, h, ht => by
    unfold chkI at h
    exact pi_kKeys (sE e ck h)
termination_by structural it => it
end
end
end Ev

set_option Elab.async false
set_option linter.all false
set_option maxRecDepth 100000
set_option maxHeartbeats 4000000
/-! Statements: the readings; stores of names. -/
namespace Ev
open PySem PySem.Spec PyProof.Rows L2
/-- what a def's body leaves of its names -/
def Kp (k : Nat → Bool) (σ σ' : L2.St) : Prop := σ'.length = σ.length ∧ ∀ i, k i = true → σ'[i]? = σ[i]?
theorem Kp.refl (k : Nat → Bool) (σ : L2.St) : Kp k σ σ := ⟨rfl, fun _ _ => rfl⟩
theorem Kp.trans {k : Nat → Bool} {a b c : L2.St} (h : Kp k a b) (g : Kp k b c) : Kp k a c := ⟨g.1.trans h.1, fun i hi => (g.2 i hi).trans (h.2 i hi)⟩
theorem Kp.off {k : Nat → Bool} {ix : List Nat} {a b : L2.St} (h : OffEq ix a b) (n : ∀ i ∈ ix, k i = false) : Kp k a b := ⟨h.1, fun i hi => h.2 i fun m => by rw [n i m] at hi; cases hi⟩
theorem Kp.set {k : Nat → Bool} {σ : L2.St} {i : Nat} {x : Option V} (h : k i = false) : Kp k σ (σ.set i x) := Kp.off (OffEq.set (ix := [i]) (by simp)) fun j hj => by cases List.mem_singleton.mp hj; exact h
def FP (K : PySem.W.Frag) (Tl : List (Addr × Str)) (Cv : Str → Value) (k : Nat → Bool) (W : WX) (Z F : Hp) (σ : L2.St) (f : Flow) (D : Ends) : Prop := match f with
  | .next δ' => ∀ σ' H', Kp k σ σ' → PostS K Tl Z F δ' σ' H' → D.nx σ' H'
  | .brk δ' => ∀ σ' H', Kp k σ σ' → PostS K Tl Z F δ' σ' H' → D.bk σ' H'
  | .cnt δ' => ∀ σ' H', Kp k σ σ' → PostS K Tl Z F δ' σ' H' → D.ct σ' H'
  | .ret r δ' => ∀ σ' v H', Kp k σ σ' → PostE K Tl Z F δ' σ' H' r false v H' → D.rt v H'
  | .exc c δ' => ∀ σ' H', Kp k σ σ' → PostS K Tl Z F δ' σ' H' → W (Cv c) none σ' H'
  | .stuck => False
def tS (K : PySem.W.Frag) (Tl : List (Addr × Str)) (Cv : Str → Value) (k : Nat → Bool) (W : WX) (ev : Sts → Flow) : TS := fun D σ H => ∃ Z F δ ow, StR K Tl Z F δ σ H ow ∧ FP K Tl Cv k W Z F σ (ev δ) D
section
variable {K : PySem.W.Frag} {Tl : List (Addr × Str)} {Cv : Str → Value} {k : Nat → Bool} {W : WX} {Z F Z1 F1 : Hp} {σ σ1 : L2.St} {f : Flow} {D D' : Ends} {α : Type}
theorem FP.weak (h : FP K Tl Cv k W Z F σ f D) (g : Gr Z F Z1) (s : Same F F1) (kp : Kp k σ σ1) : FP K Tl Cv k W Z1 F1 σ1 f D := by
  cases f with
  | next δ' => exact fun σ' H' k2 p => h σ' H' (kp.trans k2) (p.weak g s)
  | brk δ' => exact fun σ' H' k2 p => h σ' H' (kp.trans k2) (p.weak g s)
  | cnt δ' => exact fun σ' H' k2 p => h σ' H' (kp.trans k2) (p.weak g s)
  | ret r δ' => exact fun σ' v H' k2 p => h σ' v H' (kp.trans k2) (p.weak g s fun e => by cases e)
  | exc c δ' => exact fun σ' H' k2 p => h σ' H' (kp.trans k2) (p.weak g s)
  | stuck => exact h
theorem FP.flow {m : Res α} {g : α → Sts → Flow} (h : FP K Tl Cv k W Z F σ (m.flow g) D) : RP K Tl Cv W Z F σ m fun a δ' => FP K Tl Cv k W Z F σ (g a δ') D := by
  cases m with
  | ok a δ => exact h
  | exc c δ => exact fun H' p => h σ H' (Kp.refl _ _) p
  | stuck => exact h
theorem FP.opt {o : Option Sts} (h : FP K Tl Cv k W Z F σ (Flow.ofOpt o) D) : ∃ δ', o = some δ' ∧ FP K Tl Cv k W Z F σ (.next δ') D := by
  cases o with
  | none => exact h.elim
  | some δ => exact ⟨δ, rfl, h⟩
/-- a thing that is an expression's own, stored -/
theorem put_own {δ : Sts} {H : Hp} {ow : Nat → List Addr} {s : Slot} {v : V} {i : Nat} (f : Same F F1) (st : StR K Tl Z1 F1 δ σ H ow) (r : RvR K F Z1 F1 H σ (.own s) v) (hi : i < σ.length) : ∃ ow', StR K Tl Z1 F (δ.set i s) (σ.set i (some v)) H ow' := by
  obtain ⟨B, hs, hB⟩ := r
  refine ⟨_, (st.drop f).put (B := B) (by rw [st.ln]; exact hi) List.length_set (List.getElem?_set_self hi) (fun j c => List.getElem?_set_ne (Ne.symm c)) (hs.same (Same.refl _) st.f) fun a m => ⟨(hB a m).1, (hB a m).2, fun j _ m' => ?_⟩⟩
  obtain ⟨o, e, _⟩ := hs.mem a m
  rw [(st.fr j a m').2] at e; cases e
theorem asg_nm {ev : M RV} {i : Nat} {q : Bool} {H : Hp} (hl : i < σ.length) (hk : k i = false) (h : tS K Tl Cv k W (fun δ => (ev δ).flow fun r δ => Flow.ofOpt (asgR (.nm i) r δ)) D σ H) : tAsg (tE K Tl Cv W ev q) (gName i) D σ H := by
  obtain ⟨Z, F, δ, ow, st, h⟩ := h
  refine ⟨Z, F, δ, ow, st, (FP.flow h).imp fun r δ1 h1 v H1 hp => ?_⟩
  obtain ⟨δ', e, h2⟩ := h1.opt
  show D.nx (σ.set i (some v)) H1
  have fin : ∀ d δ2, PostE K Tl Z F δ2 σ H (.dat d) q v H1 → δ' = δ2.set i (.dat d) → D.nx (σ.set i (some v)) H1 := fun d δ2 ⟨Z1, F1, ow1, g1, f1, st1, r1, s1⟩ e' => by
    subst e'
    exact h2 _ H1 (Kp.set hk) ⟨Z1, _, g1, put_dat (st1.drop f1) hl r1⟩
  have stl : (match settle r δ1 with
    | .ok d δ' => some (δ'.set i (.dat d))
    | _ => none) = some δ' → D.nx (σ.set i (some v)) H1 := fun e => by
    cases es : settle r δ1 with
    | ok d δ2 =>
      rw [es] at e
      obtain ⟨d', δ'', ⟨e1, e2⟩, hp'⟩ := settle_post (Cv := Cv) (W := W) (Z0 := Z) (F0 := F) (post := fun d0 δ0 => d0 = d ∧ δ0 = δ2) hp (by rw [es]; exact ⟨rfl, rfl⟩)
      subst e1 e2
      exact fin _ _ hp' (Option.some.inj e).symm
    | exc c δ2 => rw [es] at e; cases e
    | stuck => rw [es] at e; cases e
  cases r with
  | own s =>
    have e' : δ' = δ1.set i s := (Option.some.inj e).symm
    subst e'
    obtain ⟨Z1, F1, ow1, g1, f1, st1, r1, s1⟩ := hp
    obtain ⟨ow', st'⟩ := put_own f1 st1 r1 hl
    exact h2 _ H1 (Kp.set hk) ⟨Z1, ow', g1, st'⟩
  | dat d => exact fin d δ1 hp (Option.some.inj e).symm
  | loc j => exact stl e
  | inn ds => exact stl e
theorem asg_tup {ev : M RV} {is : List Nat} {q : Bool} {H : Hp} (hk : ∀ i ∈ is, k i = false) (h : tS K Tl Cv k W (fun δ => (ev δ).flow fun r δ => Flow.ofOpt (asgR (.tup is) r δ)) D σ H) : tAsg (tE K Tl Cv W ev q) (tGt K Tl (.tup is)) D σ H := by
  obtain ⟨Z, F, δ, ow, st, h⟩ := h
  refine ⟨Z, F, δ, ow, st, (FP.flow h).imp fun r δ1 h1 v H1 hp => ?_⟩
  obtain ⟨δ', e, h2⟩ := h1.opt
  have e : (match settle r δ1 with
    | .ok (.tuple ds) δ' => setAll is ds δ'
    | _ => none) = some δ' := by cases r <;> exact e
  cases es : settle r δ1 with
  | ok d δ2 =>
    rw [es] at e
    obtain ⟨d', δ'', ⟨e1, e2⟩, Z1, F1, ow1, g1, f1, st1, r1, s1⟩ := settle_post (Cv := Cv) (W := W) (Z0 := Z) (F0 := F) (post := fun d0 δ0 => d0 = d ∧ δ0 = δ2) hp (by rw [es]; exact ⟨rfl, rfl⟩)
    subst e1 e2
    refine ⟨Z1, F, δ'', ow1, d', δ', st1.drop f1, r1, ?_, fun σ' ow' off st' => h2 σ' H1 (Kp.off off hk) ⟨Z1, ow', g1, st'⟩⟩
    cases d' <;> first | exact e | cases e
  | exc c δ2 => rw [es] at e; cases e
  | stuck => rw [es] at e; cases e
end
/-! ### several at once -/
def SlsR (K : PySem.W.Frag) (Z G : Hp) : List Slot → List V → List (List Addr) → Prop
  | [], [], [] => True
  | s :: ss, v :: vs, B :: Bs => SlR K Z G s v B ∧ SlsR K Z G ss vs Bs
  | _, _, _ => False
def setσ : List Nat → List V → L2.St → L2.St
  | i :: is, v :: vs, σ => setσ is vs (σ.set i (some v))
  | _, _, σ => σ
def Djs : List (List Addr) → Prop
  | [] => True
  | B :: Bs => (∀ C ∈ Bs, ∀ a ∈ B, a ∉ C) ∧ Djs Bs
section
variable {K : PySem.W.Frag} {Tl : List (Addr × Str)} {Cv : Str → Value} {k : Nat → Bool} {W : WX} {Z F Z1 F1 : Hp}
theorem SlsR.mono {Z' G G' : Hp} (s : Same Z Z') : ∀ {ss : List Slot} {vs : List V} {Bs : List (List Addr)}, SlsR K Z G ss vs Bs → (∀ B ∈ Bs, ∀ a ∈ B, ∀ o, G a = some o → G' a = some o) → SlsR K Z' G' ss vs Bs
  | [], [], [], _, _ => trivial
  | _ :: _, _ :: _, B :: Bs, ⟨h, t⟩, hm => ⟨h.mono s (hm B List.mem_cons_self), SlsR.mono s t fun C hC => hm C (List.mem_cons_of_mem _ hC)⟩
  | [], [], _ :: _, h, _ => h.elim
  | [], _ :: _, _, h, _ => h.elim
  | _ :: _, [], _, h, _ => h.elim
  | _ :: _, _ :: _, [], h, _ => h.elim
theorem SlsR.len {G : Hp} : ∀ {ss : List Slot} {vs : List V} {Bs : List (List Addr)}, SlsR K Z G ss vs Bs → vs.length = ss.length
  | [], [], [], _ => rfl
  | _ :: _, _ :: _, B :: Bs, ⟨h, t⟩ => by rw [List.length_cons, List.length_cons, t.len]
  | [], [], _ :: _, h => h.elim
  | [], _ :: _, _, h => h.elim
  | _ :: _, [], _, h => h.elim
  | _ :: _, _ :: _, [], h => h.elim
theorem put_all {H : Hp} : ∀ {is : List Nat} {ss : List Slot} {vs : List V} {Bs : List (List Addr)} {δ δ' : Sts} {σ : L2.St} {ow : Nat → List Addr}, (∀ i ∈ is, i < σ.length) → StR K Tl Z F δ σ H ow → SlsR K Z H ss vs Bs → (∀ B ∈ Bs, ∀ a ∈ B, Z a = none ∧ F a = none ∧ ∀ j, a ∉ ow j) → Djs Bs →
    setSlots is ss δ = some δ' → is.length = vs.length ∧ OffEq is σ (setσ is vs σ) ∧ ∃ ow', StR K Tl Z F δ' (setσ is vs σ) H ow'
  | [], [], [], [], δ, δ', σ, ow, _, st, _, _, _, e => by
    have : δ' = δ := (Option.some.inj e).symm
    subst this
    exact ⟨rfl, ⟨rfl, fun _ _ => rfl⟩, ow, st⟩
  | i :: is, s :: ss, v :: vs, B :: Bs, δ, δ', σ, ow, hi, st, ⟨h, t⟩, hB, ⟨d1, d2⟩, e => by
    have hi0 := hi i List.mem_cons_self
    have st' := st.put (B := B) (by rw [st.ln]; exact hi0) List.length_set (List.getElem?_set_self hi0) (fun j c => List.getElem?_set_ne (Ne.symm c)) h fun a m => ⟨(hB B List.mem_cons_self a m).1, (hB B List.mem_cons_self a m).2.1, fun j _ => (hB B List.mem_cons_self a m).2.2 j⟩
    obtain ⟨l1, l2, ow', st2⟩ := put_all (fun j hj => by rw [List.length_set]; exact hi j (List.mem_cons_of_mem _ hj)) st' t (fun C hC a m => ⟨(hB C (List.mem_cons_of_mem _ hC) a m).1, (hB C (List.mem_cons_of_mem _ hC) a m).2.1, fun j => by
      by_cases c : j = i
      · rw [if_pos c]; exact fun m' => d1 C hC a m' m
      · rw [if_neg c]; exact (hB C (List.mem_cons_of_mem _ hC) a m).2.2 j⟩) d2 e
    exact ⟨by rw [List.length_cons, List.length_cons, l1], (OffEq.set List.mem_cons_self).trans (l2.mono fun j hj => List.mem_cons_of_mem _ hj), ow', st2⟩
  | [], _ :: _, _, _, _, _, _, _, _, _, _, _, _, e => by cases e
  | _ :: _, [], _, _, _, _, _, _, _, _, _, _, _, e => by cases e
  | [], [], [], _ :: _, _, _, _, _, _, _, h, _, _, _ => h.elim
  | [], [], _ :: _, _, _, _, _, _, _, _, h, _, _, _ => h.elim
  | _ :: _, _ :: _, [], _, _, _, _, _, _, _, h, _, _, _ => h.elim
  | _ :: _, _ :: _, _ :: _, [], _, _, _, _, _, _, h, _, _, _ => h.elim
def PostP (K : PySem.W.Frag) (Tl : List (Addr × Str)) (Z F : Hp) (δ' : Sts) (σ : L2.St) (ss : List Slot) (vs : List V) (H' : Hp) : Prop :=
  ∃ Z' F' ow' Bs, Gr Z F Z' ∧ Same F F' ∧ StR K Tl Z' F' δ' σ H' ow' ∧ SlsR K Z' F' ss vs Bs ∧ (∀ B ∈ Bs, ∀ a ∈ B, Z' a = none ∧ F a = none) ∧ Djs Bs
def tP (K : PySem.W.Frag) (Tl : List (Addr × Str)) (Cv : Str → Value) (W : WX) (ev : M (List Slot)) : TA := fun σ H Q => ∃ Z F δ ow, StR K Tl Z F δ σ H ow ∧ RP K Tl Cv W Z F σ (ev δ) fun ss δ' => ∀ vs H', PostP K Tl Z F δ' σ ss vs H' → Q vs H'
theorem sls_mem {G : Hp} : ∀ {ss : List Slot} {vs : List V} {Bs : List (List Addr)}, SlsR K Z G ss vs Bs → ∀ B ∈ Bs, ∀ a ∈ B, ∃ o, G a = some o ∧ isOwn o = true
  | [], [], [], _ => fun _ m => by cases m
  | _ :: _, _ :: _, B :: Bs, ⟨h, t⟩ => fun C hC => by
    rcases List.mem_cons.mp hC with rfl | hC
    · exact h.mem
    · exact sls_mem t C hC
  | [], [], _ :: _, h => h.elim
  | [], _ :: _, _, h => h.elim
  | _ :: _, [], _, h => h.elim
  | _ :: _, _ :: _, [], h => h.elim
/-- the stores behind -/
theorem par_put {D : Ends} {is : List Nat} {δ' δ'' : Sts} {σ : L2.St} {ss : List Slot} {vs : List V} {H' H2 : Hp} (hl : ∀ i ∈ is, i < σ.length) (hk : ∀ i ∈ is, k i = false) (hp : PostP K Tl Z F δ' σ ss vs H') (s2 : Same H' H2) (e : setSlots is ss δ' = some δ'') (h : FP K Tl Cv k W Z F σ (.next δ'') D) :
    is.length = vs.length ∧ D.nx (setσ is vs σ) H2 := by
  obtain ⟨Z1, F1, ow1, Bs, g1, f1, st1, r1, hB, dj⟩ := hp
  have st2 := (st1.same s2).drop f1
  obtain ⟨l1, l2, ow', st3⟩ := put_all hl st2 (r1.mono (Same.refl _) fun B hB a m o ho => s2 _ _ (st1.f _ _ ho)) (fun B hB' a m => ⟨(hB B hB' a m).1, (hB B hB' a m).2, fun j m' => by
    obtain ⟨o, eo, _⟩ := sls_mem r1 B hB' a m
    rw [(st1.fr j a m').2] at eo; cases eo⟩) dj e
  exact ⟨l1, h _ _ (Kp.off l2 hk) ⟨Z1, ow', g1, st3⟩⟩
end
section
variable {S : Sx} {Tl : List (Addr × Str)} {Cv : Str → Value} {n : Nat} {sc : Scope} {W : WX} {X : Cx}
variable {a : Expr} {as : List Expr} {ea : M RV} {qa qs : Bool} {pos : Pos}
def kPar (e : M RV) (es : M (List Slot)) : M (List Slot) := fun δ => (e δ).bind fun r δ => match r with
      | .own s => (es δ).bind fun ss δ => .ok (s :: ss) δ
      | r => (settle r δ).bind fun d δ => (es δ).bind fun ss δ => .ok (.dat d :: ss) δ
theorem pa_kPar {es : M (List Slot)} (oa : okE a = true) (ha : PE X a (tE X.K Tl Cv W ea qa)) (hs : PA X as (tP X.K Tl Cv W es)) : PA X (a :: as) (tP X.K Tl Cv W (kPar ea es)) := by
  refine PA.imp (pa_cons ha hs (ok_star oa)) fun σ H Q ⟨Z, F, δ, ow, st, h⟩ => ⟨Z, F, δ, ow, st, h.bind.imp fun r δ1 h1 x H1 hp => ?_⟩
  have fin : ∀ s Z1 F1 ow1 δ' B, Gr Z F Z1 → Same F F1 → StR X.K Tl Z1 F1 δ' σ H1 ow1 → SlR X.K Z1 F1 s x B → (∀ a ∈ B, Z1 a = none ∧ F a = none) → RP X.K Tl Cv W Z F σ ((es δ').bind fun ss δ => .ok (s :: ss) δ) (fun ss δ' => ∀ vs H', PostP X.K Tl Z F δ' σ ss vs H' → Q vs H') → tP X.K Tl Cv W es σ H1 fun xs H2 => Q (x :: xs) H2 := fun s Z1 F1 ow1 δ' B g1 f1 st1 hs hB h2 => by
    refine ⟨Z1, F1, δ', ow1, st1, (h2.bind.weak g1 f1).imp fun ss δ2 h3 vs H2 ⟨Z2, F2, ow2, Bs, g2, f2, st2, r2, hBs, dj⟩ => h3 (x :: vs) H2 ⟨Z2, F2, ow2, B :: Bs, g1.trans f1 g2, f1.trans f2, st2, ⟨hs.same g2.s f2, r2⟩, fun C hC a m => ?_, fun C hC a m m' => ?_, dj⟩⟩
    · rcases List.mem_cons.mp hC with rfl | hC
      · obtain ⟨o, eo, _⟩ := hs.mem a m
        exact ⟨g2.n a (hB a m).1 (by rw [eo]; simp), (hB a m).2⟩
      · exact ⟨(hBs C hC a m).1, f1.free (hBs C hC a m).2⟩
    · obtain ⟨o, eo, _⟩ := hs.mem a m
      rw [(hBs C hC a m').2] at eo; cases eo
  have stl : RP X.K Tl Cv W Z F σ ((settle r δ1).bind fun d δ => (es δ).bind fun ss δ => .ok (.dat d :: ss) δ) (fun ss δ' => ∀ vs H', PostP X.K Tl Z F δ' σ ss vs H' → Q vs H') → tP X.K Tl Cv W es σ H1 fun xs H2 => Q (x :: xs) H2 := fun h1 => by
    obtain ⟨d, δ', h2, Z1, F1, ow1, g1, f1, st1, r1, s1⟩ := settle_post hp h1.bind
    exact fin (.dat d) Z1 F1 ow1 δ' [] g1 f1 st1 ⟨r1, rfl⟩ (fun a m => by cases m) h2
  cases r with
  | own s =>
    obtain ⟨Z1, F1, ow1, g1, f1, st1, ⟨B, r1, hB⟩, s1⟩ := hp
    exact fin s Z1 F1 ow1 δ1 B g1 f1 st1 r1 hB h1
  | dat d => exact stl h1
  | loc i => exact stl h1
  | inn ds => exact stl h1
theorem sPar : ∀ (es : Es) {as : List Expr}, Cok S Tl Cv n sc W X → chkEs S es sc as = true → PA X as (tP X.K Tl Cv W (evPar (evF S.T n) es))
  | .nil, as, ck, h => by
    unfold chkEs at h
    cases as with
    | nil => exact PA.imp pa_nil fun σ H Q ⟨Z, F, δ, ow, st, hq⟩ => hq [] H ⟨Z, F, ow, [], Gr.refl _ _, Same.refl _, st, trivial, (fun B m => by cases m), trivial⟩
    | cons _ _ => cases h
  | .cons e es, as, ck, h => by
    unfold chkEs at h
    cases as with
    | nil => cases h
    | cons a as =>
      obtain ⟨h1, h2⟩ := and_eq h
      exact pa_kPar (chk_ok h1) (sE e ck h1) (sPar es ck h2)
end
end Ev

set_option Elab.async false
set_option linter.all false
set_option maxRecDepth 100000
set_option maxHeartbeats 4000000
/-! Statements. -/
namespace Ev
open PySem PySem.Spec PyProof.Rows L2
/-! ### what a statement's text must look like -/
def isDoc : Stmt → Bool
  | .Expr (.Constant (.str _) _ _) _ => true
  | _ => false
def dropDocs : List Stmt → List Stmt
  | [] => []
  | s :: r => if isDoc s then dropDocs r else s :: r
def isLC : Expr → Bool
  | .ListComp _ _ _ _ => true
  | _ => false
def isTupE : Expr → Bool
  | .Tuple _ _ _ => true
  | _ => false
def okSlice : Expr → Bool
  | .Slice _ _ _ _ => false
  | _ => true
/-- a comprehension stored in a name -/
def lcSet (sc : Scope) (t v : Expr) : Bool := match v with
  | .ListComp _ _ scope vp => (match t with
    | .Name y py => decide (sc.names.lookup y = some .local) && (py.line == vp.line) && !(scope.names.any fun (n, k) => n == y && (k == .local || k == .cell))
    | _ => false)
  | _ => true
def asgB (sc : Scope) : Tg → Expr → Expr → Bool
  | .nm _, t, v => lcSet sc t v
  | .tup _, _, v => !isTupE v && !isLC v
def parA (ts vs : List Expr) : Bool := match ts with
  | [.Name x p, .Name y q] => (vs.length == 2) && (q.line == p.line) && !(y == x) && !(vs.all (foldedForSure 8)) && !(vs.all (constantsAlone 8))
  | [.Name x p, .Name y q, .Name z r] => (vs.length == 3) && (q.line == p.line) && (r.line == p.line) && !(y == x) && !(z == x) && !(z == y) && !(vs.all (foldedForSure 8)) && !(vs.all (constantsAlone 8))
  | _ => false
/-- each of the targets is a local name; some is a cell -/
def allLoc (sc : Scope) (ts : List Expr) : Bool := ts.all fun
  | .Name x _ => decide (sc.names.lookup x = some .local)
  | _ => false
def anyCell (sc : Scope) (ts vs : List Expr) : Bool := (ts.length == vs.length) && ts.any fun
  | .Name x _ => decide (sc.names.lookup x = some .cell)
  | _ => false
def parB (ts vs : List Expr) : Bool := (ts.length == vs.length) && (Nat.blt 3 ts.length || vs.all (foldedForSure 8))
mutual
def chkS (G : Sx) (k : Nat → Bool) : S → Scope → Stmt → Bool
  | .set tg e, sc, a => (match a with
    | .Assign [t] v _ => tgB G.N sc tg t && (tg.ix.all fun i => !k i) && chkE G e sc v && asgB sc tg t v
    | _ => false)
  | .par is es, sc, a => (match a with
    | .Assign [.Tuple ts _ _] (.Tuple vs _ _) _ => tgB G.N sc (.tup is) (.Tuple ts 0 ⟨0, 0, 0, 0⟩) && (is.all fun i => !k i) && chkEs G es sc vs && okLen vs.length && (parA ts vs && allLoc sc ts || (parB ts vs || anyCell sc ts vs))
    | _ => false)
  | .setSub x i e, sc, a => (match a with
    | .Assign [.Subscript (.Name y _) j _] v _ => nmB G.N x y && visB sc y && chkE G i sc j && chkE G e sc v
    | _ => false)
  | .setSub2 x i j e, sc, a => (match a with
    | .Assign [.Subscript (.Subscript (.Name y _) u _) w _] v _ => nmB G.N x y && visB sc y && chkE G i sc u && chkE G j sc w && chkE G e sc v
    | _ => false)
  | .aug i op e, sc, a => (match a with
    | .AugAssign (.Name y _) o v _ => decide (opOf op = o) && nmB G.N i y && locB sc y && !k i && chkE G e sc v
    | _ => false)
  | .app x e, sc, a => (match a with
    | .Expr (.Call (.Attribute (.Name y _) m ap) [v] [] cp) _ => decide (m = ("append" : Str)) && (ap.endLine == cp.line) && nmB G.N x y && visB sc y && chkE G e sc v
    | _ => false)
  | .ext x e, sc, a => (match a with
    | .Expr (.Call (.Attribute (.Name y _) m ap) [v] [] cp) _ => decide (m = ("extend" : Str)) && (ap.endLine == cp.line) && nmB G.N x y && visB sc y && chkE G e sc v
    | _ => false)
  | .expr e, sc, a => (match a with
    | .Expr v _ => chkE G e sc v && !isLC v
    | _ => false)
  | .ret e, sc, a => (match a with
    | .Return (some v) _ => chkE G e sc v
    | .Return none _ => (match e with
      | .cst .none => true
      | _ => false)
    | _ => false)
  | .ite c a b, sc, s => (match s with
    | .If t x y _ => chkE G c sc t && chkSs G k a sc x && chkSs G k b sc y
    | _ => false)
  | .for tg it b, sc, s => (match s with
    | .For t e x [] _ => tgB G.N sc tg t && (tg.ix.all fun i => !k i) && itTg it tg && chkI G it sc e && chkSs G k b sc x
    | _ => false)
  | .while c b, sc, s => (match s with
    | .While t x [] _ => chkE G c sc t && chkSs G k b sc x
    | _ => false)
  | .raise c, sc, s => (match s with
    | .Raise (some (.Call (.Name x _) [] [] _)) none _ => decide (x = c) && glB sc x && G.CT.contains x
    | _ => false)
  | .pass, _, s => (match s with
    | .Pass _ => true
    | _ => false)
  | .brk, _, s => (match s with
    | .Break _ => true
    | _ => false)
  | .cnt, _, s => (match s with
    | .Continue _ => true
    | _ => false)
def chkSs (G : Sx) (k : Nat → Bool) : Ss → Scope → List Stmt → Bool
  | .nil, _, l => (dropDocs l).isEmpty
  | .cons s ss, sc, l => (match dropDocs l with
    | a :: r => chkS G k s sc a && chkSs G k ss sc r
    | [] => false)
end
structure Sok (S : Sx) (Tl : List (Addr × Str)) (Cv : Str → Value) (n : Nat) (sc : Scope) (W : WX) (X : Cx) : Prop extends Cok S Tl Cv n sc W X where
  fnT : ∀ x, X.fn x = true
  pown : PassesOwn (model X.prog X.w) X.A X.env X.xe
  kind : X.env.scope.kind = .function
theorem PS.imp {X : Cx} {e : Stmt} {t t' : TS} (h : PS X e t) (hi : ∀ D σ H, σ.length = X.N.length → t' D σ H → t D σ H) : PS X e t' := ⟨fun pins s σ H D I hw => h.run pins s σ H D I (hi D σ H I.len hw)⟩
theorem PSs.imp {X : Cx} {e : List Stmt} {t t' : TS} (h : PSs X e t) (hi : ∀ D σ H, t' D σ H → t D σ H) : PSs X e t' := ⟨fun pins s σ H D I hw => h.run pins s σ H D I (hi D σ H hw)⟩
theorem docs_run {X : Cx} {t : TS} : ∀ {l : List Stmt}, PSs X (dropDocs l) t → PSs X l t
  | [], h => h
  | s :: r, h => by
    unfold dropDocs at h
    by_cases c : isDoc s = true
    · rw [if_pos c] at h
      have ih := docs_run h
      unfold isDoc at c
      split at c
      · exact PSs.imp (pss_cons ps_doc ih) fun D σ H q => q
      · cases c
    · rw [if_neg c] at h
      exact h
section
variable {S : Sx} {Tl : List (Addr × Str)} {Cv : Str → Value} {n : Nat} {sc : Scope} {W : WX} {X : Cx} {k : Nat → Bool}
variable {a b t v : Expr} {ea eb : M RV} {qa qb : Bool} {pos p ap : Pos}
theorem tgB_sto (ck : Sok S Tl Cv n sc W X) {tg : Tg} {e : Expr} (h : tgB S.N sc tg e = true) : StoT X tg e := by
  have one : ∀ {i : Nat} {x : Str} {p : Pos}, nmB S.N i x = true → locB sc x = true → StoN X i (.Name x p) := fun {i x p} h1 h2 => by
    obtain ⟨e1, e2, e3⟩ := nm_of h1
    exact ⟨x, p, rfl, by rw [ck.N]; exact e1, pg_name (by rw [ck.N]; exact ck.nd) (by rw [ck.N]; exact e1) (ck.toCok.loc h2) (.inl (ck.fnT x))⟩
  cases tg with
  | nm i =>
    unfold tgB at h
    split at h
    · rename_i hx; cases hx
      obtain ⟨h1, h2⟩ := and_eq h
      exact one h1 h2
    · rename_i hx; cases hx
    · cases h
  | tup is =>
    unfold tgB at h
    split at h
    · rename_i hx; cases hx
    · rename_i is' es k p hx
      cases hx
      obtain ⟨h1, h2⟩ := and_eq h
      refine ⟨es, k, p, rfl, ?_⟩
      have h1 : is.length = es.length := by simpa using h1
      clear k p h
      induction is generalizing es with
      | nil => cases es with
        | nil => trivial
        | cons _ _ => simp at h1
      | cons i is ih => cases es with
        | nil => simp at h1
        | cons e es =>
          simp only [List.zip_cons_cons, List.all_cons, Bool.and_eq_true] at h2
          refine ⟨?_, ih es (by simpa using h1) h2.2 (by simpa using h1)⟩
          have h3 := h2.1
          split at h3
          · rw [Bool.and_eq_true] at h3
            exact one h3.1 h3.2
          · cases h3
    · cases h
/-! ### stores -/
theorem sw_not {l : Nat} {env : Env} {o : Option Expr} (h : isLC v = false) (hv : okE v = true) : swapsWith v o l env = pure false := by
  cases v <;> first | rfl | exact absurd hv Bool.false_ne_true | exact absurd h.symm Bool.false_ne_true
theorem sole_eq (t v : Expr) (l : Nat) (env : Env) : swapsWithSole [t] v l env = swapsWith v (some t) l env := rfl
theorem sw_tup {l : Nat} {env : Env} {ts : List Expr} {kk : Nat} {tp : Pos} (h : isLC v = false) (hv : okE v = true) : swapsWith v (some (.Tuple ts kk tp)) l env = pure false := sw_not h hv
theorem sw_sub {l : Nat} {env : Env} {x y : Expr} {tp : Pos} : swapsWith v (some (.Subscript x y tp)) l env = pure false := by cases v <;> rfl
theorem st_sub {env : Env} {x y : Expr} {tp : Pos} : swappedStores [.Subscript x y tp] v env = pure none := by cases v <;> rfl
theorem st_tup {env : Env} {ts : List Expr} {kk : Nat} {tp : Pos} (h : isTupE v = false) : swappedStores [.Tuple ts kk tp] v env = pure none := by cases v <;> first | rfl | cases h
/-! ### name = value -/
theorem comp_parts {X : Cx} (ck : Cok S Tl Cv n sc W X) {own : List Nat} {tg : Tg} {it : It} {cs : Es} {elt : E} (h : chkE S (.comp own tg it cs elt) sc a = true) : ∃ el tx ix ifs scope vp, a = .ListComp el [⟨tx, ix, ifs, 0⟩] scope vp ∧ (∀ i ∈ tg.ix, i ∈ own) ∧ blkC S.N sc scope (ownL S.N own) = true ∧
    PI X tx ix (tI X.K Tl Cv W (evI (evF S.T n) it)) ∧ (∀ x, foldedSetIterable ix X.env x = pure x) ∧ (∀ s H C cl fp, StoT (X.blk s H scope (compEnvC scope cl C X.env) fp) tg tx) ∧
    (∀ s H C cl fp, PTs (X.blk s H scope (compEnvC scope cl C X.env) fp) ifs (tT X.K Tl Cv W0 (evCs (evF S.T n) cs))) ∧ ∀ s H C cl fp, PE (X.blk s H scope (compEnvC scope cl C X.env) fp) el (tE X.K Tl Cv W0 (evE (evF S.T n) elt) elt.quiet) := by
  unfold chkE at h
  split at h
  · rename_i el tx ix ifs scope vp
    obtain ⟨h, h8⟩ := and_eq h
    obtain ⟨h, h7⟩ := and_eq h
    obtain ⟨h, h6⟩ := and_eq h
    obtain ⟨h, h5⟩ := and_eq h
    obtain ⟨h, h4⟩ := and_eq h
    obtain ⟨h, h3⟩ := and_eq h
    obtain ⟨h1, h2⟩ := and_eq h
    have hin : ∀ i ∈ tg.ix, i ∈ own := fun i hi => by simpa using List.all_eq_true.mp h3 i hi
    have pif : ∀ {X' : Cx}, Cok S Tl Cv n (relS scope sc) W0 X' → PTs X' ifs (tT X'.K Tl Cv W0 (evCs (evF S.T n) cs)) := fun {X'} ck' => by
      split at h7
      · cases cs with
        | nil => exact ⟨fun pins s σ H Q I ⟨Z, F, δ, ow, st, hq⟩ => pts_nil.run pins s σ H Q I (hq H ⟨Z, ow, Gr.refl _ _, st⟩)⟩
        | cons _ _ => unfold chkEs at h7; cases h7
      · cases cs with
        | nil => unfold chkEs at h7; cases h7
        | cons c cs =>
          unfold chkEs at h7
          obtain ⟨h9, h10⟩ := and_eq h7
          cases cs with
          | cons _ _ => unfold chkEs at h10; cases h10
          | nil =>
            have hc := (sT c ck' h9).1
            refine ⟨fun pins s σ H Q I hq => (pts_one hc).run pins s σ H Q I ?_⟩
            obtain ⟨Z, F, δ, ow, st, hq⟩ := hq
            refine ⟨Z, F, δ, ow, st, RP.imp (RP.bind hq) fun b δ1 h1 H1 hp => ?_⟩
            cases b <;> exact h1 H1 hp
      · cases h7
    exact ⟨el, tx, ix, ifs, scope, vp, rfl, hin, h1, sI it ck h6 (fun e => by
      cases tg with
      | nm i => rw [itTg_nm e] at h4; cases h4
      | tup is => exact tupR h2), chkI_fold h6, fun s H C cl fp => tgR_sto ck.blk (fun x hx => by show (scope.names.lookup x == some .cell) = true; rw [hx]; rfl) h2, fun s H C cl fp => pif ck.blk, fun s H C cl fp => sE elt ck.blk h8⟩
  · cases h
theorem compR_parts {X : Cx} (ck : Cok S Tl Cv n sc W X) {own : List Nat} {tg : Tg} {it : It} {elt : E} (h : chkE S (.compR own tg it elt) sc a = true) : ∃ el tx ix scope vp, a = .ListComp el [⟨tx, ix, [], 0⟩] scope vp ∧ (∀ i ∈ tg.ix, i ∈ own) ∧ blkC S.N sc scope (ownL S.N own) = true ∧
    PI X tx ix (tI X.K Tl Cv W (evI (evF S.T n) it)) ∧ (∀ x, foldedSetIterable ix X.env x = pure x) ∧ (∀ s H C cl fp, StoT (X.blk s H scope (compEnvC scope cl C X.env) fp) tg tx) ∧
    ∀ s H C cl fp, PE (X.blk s H scope (compEnvC scope cl C X.env) fp) el (tE X.K Tl Cv W0 (evE (evF S.T n) elt) elt.quiet) := by
  unfold chkE at h
  split at h
  · rename_i el tx ix scope vp
    obtain ⟨h, h8⟩ := and_eq h
    obtain ⟨h, h6⟩ := and_eq h
    obtain ⟨h, h5⟩ := and_eq h
    obtain ⟨h, h4⟩ := and_eq h
    obtain ⟨h, h3⟩ := and_eq h
    obtain ⟨h1, h2⟩ := and_eq h
    have hin : ∀ i ∈ tg.ix, i ∈ own := fun i hi => by simpa using List.all_eq_true.mp h3 i hi
    exact ⟨el, tx, ix, scope, vp, rfl, hin, h1, sI it ck h6 (fun e => by
      cases tg with
      | nm i => rw [itTg_nm e] at h4; cases h4
      | tup is => exact tupR h2), chkI_fold h6, fun s H C cl fp => tgR_sto ck.blk (fun x hx => by show (scope.names.lookup x == some .cell) = true; rw [hx]; rfl) h2, fun s H C cl fp => sE elt ck.blk h8⟩
  · cases h
theorem lc_core_of {e : E} (h : chkE S e sc v = true) (hc : isLC v = true) : (∃ own tg it cs elt, e = .comp own tg it cs elt) ∨ ∃ own tg it elt, e = .compR own tg it elt := by
  cases e <;> first | exact .inl ⟨_, _, _, _, _, rfl⟩ | exact .inr ⟨_, _, _, _, rfl⟩ | (unfold chkE at h; split at h <;> first | cases hc | cases h) | (unfold chkE at h; cases h)
theorem sSet (ck : Sok S Tl Cv n sc W X) {tg : Tg} {e : E} (h1 : tgB S.N sc tg t = true) (h2 : (tg.ix.all fun i => !k i) = true) (h3 : chkE S e sc v = true) (h4 : asgB sc tg t v = true) :
    PS X (.Assign [t] v pos) (tS X.K Tl Cv k W (fun δ => (evE (evF S.T n) e δ).flow fun r δ => Flow.ofOpt (asgR tg r δ))) := by
  have hk : ∀ i ∈ tg.ix, k i = false := fun i hi => by simpa using List.all_eq_true.mp h2 i hi
  cases tg with
  | nm i =>
    have sto := tgB_sto ck h1
    obtain ⟨x, p, rfl, hx, hg⟩ := sto
    have hl : ∀ {σ : L2.St}, σ.length = X.N.length → i < σ.length := fun e => by rw [e]; exact (List.getElem?_eq_some_iff.mp hx).1
    have hloc : Loc X.env.scope x := by
      unfold tgB at h1
      exact ck.toCok.loc (and_eq h1).2
    by_cases hc : isLC v = true
    · rcases lc_core_of h3 hc with ⟨own, tg', it, cs, elt, rfl⟩ | ⟨own, tg', it, elt, rfl⟩
      · obtain ⟨el, tx, ix, ifs, scope, vp, rfl, hin, hb, hi, hs, hgt, ht, he⟩ := comp_parts ck.toCok h3
        obtain ⟨h4, h6⟩ := and_eq h4
        obtain ⟨h4, h5⟩ := and_eq h4
        have hy : X.env.scope.names.lookup x = some .local := by rw [ck.sc]; exact of_decide_eq_true h4
        have hb' : blkC X.N X.env.scope scope (ownL S.N own) = true := by rw [ck.N, ck.sc]; exact hb
        refine PS.imp (ps_setLc (g := tGt X.K Tl tg') ck.calm (by rw [ck.N]; exact ck.nd) hx hy (sw_true ck.kind hy h5 (by simpa using h6)) hi (blkOk_by hb')
          (fun s H C cl fp => StoT.pg (X := X.blk s H scope (compEnvC scope cl C X.env) fp) (Tl := Tl) ck.calm (hgt s H C cl fp)) ht he hs) fun D σ H hlen h => ?_
        rw [ownL_ix]
        exact comp_reads hin (asg_nm (q := false) (hl hlen) (hk i (by simp [Tg.ix])) h)
      · obtain ⟨el, tx, ix, scope, vp, rfl, hin, hb, hi, hs, hgt, he⟩ := compR_parts ck.toCok h3
        obtain ⟨h4, h6⟩ := and_eq h4
        obtain ⟨h4, h5⟩ := and_eq h4
        have hy : X.env.scope.names.lookup x = some .local := by rw [ck.sc]; exact of_decide_eq_true h4
        have hb' : blkC X.N X.env.scope scope (ownL S.N own) = true := by rw [ck.N, ck.sc]; exact hb
        refine PS.imp (ps_setLc (g := tGt X.K Tl tg') ck.calm (by rw [ck.N]; exact ck.nd) hx hy (sw_true ck.kind hy h5 (by simpa using h6)) hi (blkOk_by hb')
          (fun s H C cl fp => StoT.pg (X := X.blk s H scope (compEnvC scope cl C X.env) fp) (Tl := Tl) ck.calm (hgt s H C cl fp)) (fun _ _ _ _ _ => pts_nil) he hs) fun D σ H hlen h => ?_
        rw [ownL_ix]
        exact compR_reads hin (asg_nm (q := false) (hl hlen) (hk i (by simp [Tg.ix])) h)
    · have hc : isLC v = false := by simpa using hc
      exact PS.imp (ps_set (by rw [ck.N]; exact ck.nd) hx hloc (sE e ck.toCok h3) (sw_not hc (chk_ok h3)) (.inl (ck.fnT x))) fun D σ H hlen h => asg_nm (hl hlen) (hk i (by simp [Tg.ix])) h
  | tup is =>
    obtain ⟨h4, h5⟩ := and_eq h4
    have hc : isLC v = false := by simpa using h5
    have ht : isTupE v = false := by simpa using h4
    have sto := tgB_sto ck h1
    obtain ⟨es, kk, tp, rfl, hst⟩ := id sto
    exact PS.imp (ps_asg (sE e ck.toCok h3) (sto.pg (Tl := Tl) ck.calm) ((sole_eq _ _ _ _).trans (sw_not hc (chk_ok h3))) (st_tup ht) rfl) fun D σ H hlen h => asg_tup hk h
/-! ### a, b = x, y -/
theorem gNames_set {is : List Nat} {vs : List V} {σ : L2.St} {H : Hp} {Q : L2.St → Hp → Prop} (h : is.length = vs.length) (q : Q (setσ is vs σ) H) : gNames is vs σ H Q := by
  induction is generalizing vs σ with
  | nil => cases vs with
    | nil => exact ⟨rfl, q⟩
    | cons _ _ => cases h
  | cons i is ih => cases vs with
    | nil => cases h
    | cons v vs => exact ⟨v, vs, rfl, ih (by simpa using h) q⟩
def isStar : Expr → Bool
  | .Starred _ _ => true
  | _ => false
theorem ok_nostar (h : okE a = true) : isStar a = false := by cases a <;> first | rfl | exact absurd h Bool.false_ne_true
theorem swapped_names {ts vs : List Expr} {kt k2 : Nat} {pt pt2 : Pos} {names : List Str} {env : Env} (hk : env.scope.kind = .function) (hl : (!(ts.length == 2 || ts.length == 3) || vs.length != ts.length) = false) (hs : (vs.any isStar) = false)
    (hn : (ts.filterMap fun
    | .Name id pos => if env.kindOf id == some .local && pos.line == (ts.head?.map (·.pos.line)).getD 0 then some id else none
    | _ => none) = names) (hn2 : (names.length != ts.length || names.eraseDups.length != names.length) = false)
    (h1 : vs.all (foldedForSure 8) = false) (h2 : vs.all (constantsAlone 8) = false) : swappedStores [.Tuple ts kt pt] (.Tuple vs k2 pt2) env = pure (some names) := by
  have hb : env.blockKind = .function := by unfold Env.blockKind; rw [hk]; rfl
  unfold swappedStores
  dsimp only
  rw [if_neg (by rw [hb, hl]; decide)]
  show (if (vs.any isStar) = true then _ else _) = _
  rw [if_neg (by rw [hs]; decide)]
  generalize hg : List.filterMap _ ts = g
  obtain rfl : g = names := hg.symm.trans hn
  rw [if_neg (by rw [hn2]; decide), if_neg (by rw [h1]; decide), if_neg (by rw [h2]; decide)]
theorem sw_two {x y : Str} {px py pt pt2 : Pos} {kt k2 : Nat} {env : Env} (hk : env.scope.kind = .function) (hx : env.scope.names.lookup x = some .local) (hy : env.scope.names.lookup y = some .local) (hl : (py.line == px.line) = true) (hn : (y == x) = false) (oa : okE a = true) (ob : okE b = true)
    (h1 : [a, b].all (foldedForSure 8) = false) (h2 : [a, b].all (constantsAlone 8) = false) : swappedStores [.Tuple [.Name x px, .Name y py] kt pt] (.Tuple [a, b] k2 pt2) env = pure (some [x, y]) := by
  have kx : env.kindOf x = some .local := hx
  have ky : env.kindOf y = some .local := hy
  have hl' : py.line = px.line := by simpa using hl
  refine swapped_names hk rfl (by simp [ok_nostar oa, ok_nostar ob]) (by simp [kx, ky, hl', Expr.pos]) ?_ h1 h2
  have : ([x, y] : List Str).eraseDups = [x, y] := by simp [List.eraseDups_cons, hn]
  rw [this]; rfl
theorem chks_ok {S : Sx} {sc : Scope} : ∀ {es : Es} {as : List Expr}, chkEs S es sc as = true → ∀ v ∈ as, okE v = true
  | .nil, as, h => by
    unfold chkEs at h
    cases as with
    | nil => exact fun v m => by cases m
    | cons _ _ => cases h
  | .cons e es, as, h => by
    unfold chkEs at h
    cases as with
    | nil => cases h
    | cons a as =>
      obtain ⟨h1, h2⟩ := and_eq h
      intro v m
      rcases List.mem_cons.mp m with rfl | m
      · exact chk_ok h1
      · exact chks_ok h2 v m
theorem not_eq {b : Bool} (h : (!b) = true) : b = false := by cases b <;> first | rfl | cases h
theorem sw_three {x y z : Str} {px py pz pt pt2 : Pos} {kt k2 : Nat} {c : Expr} {env : Env} (hk : env.scope.kind = .function) (hx : env.scope.names.lookup x = some .local) (hy : env.scope.names.lookup y = some .local) (hz : env.scope.names.lookup z = some .local) (hl : (py.line == px.line) = true) (hl2 : (pz.line == px.line) = true)
    (hn : (y == x) = false) (hn2 : (z == x) = false) (hn3 : (z == y) = false) (oa : okE a = true) (ob : okE b = true) (oc : okE c = true)
    (h1 : [a, b, c].all (foldedForSure 8) = false) (h2 : [a, b, c].all (constantsAlone 8) = false) : swappedStores [.Tuple [.Name x px, .Name y py, .Name z pz] kt pt] (.Tuple [a, b, c] k2 pt2) env = pure (some [x, y, z]) := by
  have kx : env.kindOf x = some .local := hx
  have ky : env.kindOf y = some .local := hy
  have kz : env.kindOf z = some .local := hz
  have hl' : py.line = px.line := by simpa using hl
  have hl2' : pz.line = px.line := by simpa using hl2
  refine swapped_names hk rfl (by simp [ok_nostar oa, ok_nostar ob, ok_nostar oc]) (by simp [kx, ky, kz, hl', hl2', Expr.pos]) ?_ h1 h2
  have : ([x, y, z] : List Str).eraseDups = [x, y, z] := by simp [List.eraseDups_cons, hn, hn2, hn3]
  rw [this]; rfl
theorem swapped_none {ts vs : List Expr} {kt k2 : Nat} {pt pt2 : Pos} {env : Env} (h : (Nat.blt 3 ts.length || vs.all (foldedForSure 8)) = true) : swappedStores [.Tuple ts kt pt] (.Tuple vs k2 pt2) env = pure none := by
  unfold swappedStores
  dsimp only
  rw [Bool.or_eq_true] at h
  rcases h with h | h
  · have h : 3 < ts.length := Nat.blt_eq.mp h
    rw [if_pos]
    have h2 : (ts.length == 2) = false := beq_eq_false_iff_ne.mpr (by omega)
    have h3 : (ts.length == 3) = false := beq_eq_false_iff_ne.mpr (by omega)
    rw [h2, h3]; rfl
  · split
    · rfl
    · split
      · rfl
      · split
        · rfl
        · rfl
theorem swapped_cell {ts vs : List Expr} {kt k2 : Nat} {pt pt2 : Pos} {env : Env} (h : (ts.any fun
  | .Name x _ => decide (env.scope.names.lookup x = some .cell)
  | _ => false) = true) : swappedStores [.Tuple ts kt pt] (.Tuple vs k2 pt2) env = pure none := by
  unfold swappedStores
  dsimp only
  split
  · rfl
  · split
    · rfl
    · rw [if_pos]
      rw [Bool.or_eq_true]
      left
      rw [bne_iff_ne]
      intro e
      have e2 := List.filterMap_length_eq_length.mp e
      obtain ⟨t, ht, h1⟩ := List.any_eq_true.mp h
      have h2 := e2 t ht
      split at h1
      · rename_i x p
        have h1 : env.kindOf x = some .cell := of_decide_eq_true h1
        simp [h1] at h2
      · cases h1
theorem stoC_names {N : List Str} {sc : Scope} : ∀ {is : List Nat} {ts : List Expr} {k : Nat} {p : Pos}, tgB N sc (.tup is) (.Tuple ts k p) = true → is.length = ts.length ∧ ∀ i, ∀ (h : i < ts.length) (h' : i < is.length), ∃ x q, ts[i] = .Name x q ∧ N[is[i]]? = some x := by
  intro is ts k p h
  unfold tgB at h
  obtain ⟨h1, h2⟩ := and_eq h
  have h1 : is.length = ts.length := by simpa using h1
  refine ⟨h1, fun i hi hi' => ?_⟩
  have := List.all_eq_true.mp h2 (is[i], ts[i]) (by
    have e : (is.zip ts)[i]'(by simp; omega) = (is[i], ts[i]) := by simp
    rw [← e]
    exact List.getElem_mem _)
  dsimp only at this
  split at this
  · rename_i x q e
    obtain ⟨h3, h4⟩ := and_eq this
    exact ⟨x, q, e, (nm_of h3).1⟩
  · cases this
theorem allLoc_mem {sc : Scope} {ts : List Expr} {x : Str} {p : Pos} (h : allLoc sc ts = true) (m : .Name x p ∈ ts) : sc.names.lookup x = some .local := by
  have := List.all_eq_true.mp h _ m
  exact of_decide_eq_true this
theorem sParS (ck : Sok S Tl Cv n sc W X) {is : List Nat} {es : Es} {ts vs : List Expr} {kt k2 : Nat} {pt pt2 : Pos} (h1 : tgB S.N sc (.tup is) (.Tuple ts kt pt) = true) (h2 : (is.all fun i => !k i) = true) (h3 : chkEs S es sc vs = true) (h4 : okLen vs.length = true) (h5 : (parA ts vs && allLoc sc ts || (parB ts vs || anyCell sc ts vs)) = true) :
    PS X (.Assign [.Tuple ts kt pt] (.Tuple vs k2 pt2) pos) (tS X.K Tl Cv k W (fun δ => (evPar (evF S.T n) es δ).flow fun ss δ => Flow.ofOpt (setSlots is ss δ))) := by
  have hk : ∀ i ∈ is, k i = false := fun i hi => by simpa using List.all_eq_true.mp h2 i hi
  have pa := sPar es ck.toCok h3
  obtain ⟨l1, nm⟩ := stoC_names h1
  have oks : ∀ v ∈ vs, okE v = true := chks_ok h3
  have sto := tgB_sto ck h1
  obtain ⟨ts', kt', pt', e', hst⟩ := sto
  cases e'
  obtain ⟨hgs, hix, hlen', hnames⟩ := hst.pgs
  have hN : X.N.Nodup := by rw [ck.N]; exact ck.nd
  rw [Bool.or_eq_true] at h5
  rcases h5 with h5 | h5
  · have hh := and_eq h5
    clear h5
    obtain ⟨h5, hloc⟩ := hh
    unfold parA at h5
    split at h5
    · rename_i x px y py
      obtain ⟨h5, h9⟩ := and_eq h5
      obtain ⟨h5, h8⟩ := and_eq h5
      obtain ⟨h5, h7⟩ := and_eq h5
      obtain ⟨h5, h6⟩ := and_eq h5
      match is, l1, vs, h5 with
      | [i, j], _, [a, b], _ =>
        obtain ⟨x1, q1, e1, n1⟩ := nm 0 (by simp) (by simp)
        obtain ⟨x2, q2, e2, n2⟩ := nm 1 (by simp) (by simp)
        cases e1; cases e2
        have k1 := allLoc_mem hloc (x := x) (p := px) (by simp)
        have k2' := allLoc_mem hloc (x := y) (p := py) (by simp)
        have hx : X.N[i]? = some x := by rw [ck.N]; exact n1
        have hy : X.N[j]? = some y := by rw [ck.N]; exact n2
        have hxy : (y == x) = false := by simpa using h7
        have hij : i ≠ j := fun e => by
          subst e
          rw [hx] at hy
          cases hy
          simp at hxy
        refine PS.imp (ps_par ck.calm hN hx hy hij (by rw [ck.sc]; exact k1) (by rw [ck.sc]; exact k2') pa (sw_two ck.kind (by rw [ck.sc]; exact k1) (by rw [ck.sc]; exact k2') h6 hxy (oks a (by simp)) (oks b (by simp)) (not_eq h8) (not_eq h9)) rfl) fun D σ H hlen h => ?_
        obtain ⟨Z, F, δ, ow, st, h⟩ := h
        refine ⟨Z, F, δ, ow, st, (FP.flow h).imp fun ss δ1 h1 vs H1 hp => ?_⟩
        obtain ⟨δ', e, h2⟩ := h1.opt
        obtain ⟨el, q⟩ := par_put (fun i hi => by rw [hlen]; exact hix i hi) hk hp (Same.refl _) e h2
        match vs, el with
        | [v, w], _ => exact ⟨v, w, rfl, q⟩
    · rename_i x px y py z pz
      obtain ⟨h5, h9⟩ := and_eq h5
      obtain ⟨h5, h8⟩ := and_eq h5
      obtain ⟨h5, h12⟩ := and_eq h5
      obtain ⟨h5, h11⟩ := and_eq h5
      obtain ⟨h5, h7⟩ := and_eq h5
      obtain ⟨h5, h10⟩ := and_eq h5
      obtain ⟨h5, h6⟩ := and_eq h5
      match is, l1, vs, h5 with
      | [i, j, l], _, [a, b, c], _ =>
        obtain ⟨x1, q1, e1, n1⟩ := nm 0 (by simp) (by simp)
        obtain ⟨x2, q2, e2, n2⟩ := nm 1 (by simp) (by simp)
        obtain ⟨x3, q3, e3, n3⟩ := nm 2 (by simp) (by simp)
        cases e1; cases e2; cases e3
        have k1 := allLoc_mem hloc (x := x) (p := px) (by simp)
        have k2' := allLoc_mem hloc (x := y) (p := py) (by simp)
        have k3 := allLoc_mem hloc (x := z) (p := pz) (by simp)
        have hx : X.N[i]? = some x := by rw [ck.N]; exact n1
        have hy : X.N[j]? = some y := by rw [ck.N]; exact n2
        have hz : X.N[l]? = some z := by rw [ck.N]; exact n3
        have hxy : (y == x) = false := by simpa using h7
        have hxz : (z == x) = false := by simpa using h11
        have hyz : (z == y) = false := by simpa using h12
        have hij : i ≠ j := fun e => by
          subst e; rw [hx] at hy; cases hy; simp at hxy
        have hil : i ≠ l := fun e => by
          subst e; rw [hx] at hz; cases hz; simp at hxz
        have hjl : j ≠ l := fun e => by
          subst e; rw [hy] at hz; cases hz; simp at hyz
        refine PS.imp (ps_par3 ck.calm hN hx hy hz hij hil hjl (by rw [ck.sc]; exact k1) (by rw [ck.sc]; exact k2') (by rw [ck.sc]; exact k3) pa (sw_three ck.kind (by rw [ck.sc]; exact k1) (by rw [ck.sc]; exact k2') (by rw [ck.sc]; exact k3) h6 h10 hxy hxz hyz (oks a (by simp)) (oks b (by simp)) (oks c (by simp)) (not_eq h8) (not_eq h9)) rfl) fun D σ H hlen h => ?_
        obtain ⟨Z, F, δ, ow, st, h⟩ := h
        refine ⟨Z, F, δ, ow, st, (FP.flow h).imp fun ss δ1 h1 vs H1 hp => ?_⟩
        obtain ⟨δ', e, h2⟩ := h1.opt
        obtain ⟨el, q⟩ := par_put (fun i hi => by rw [hlen]; exact hix i hi) hk hp (Same.refl _) e h2
        match vs, el with
        | [u, v, w], _ => exact ⟨u, v, w, rfl, q⟩
    · cases h5
  · obtain ⟨hlv0, sw⟩ : (ts.length == vs.length) = true ∧ swappedStores [.Tuple ts kt pt] (.Tuple vs k2 pt2) X.env = pure none := by
      rw [Bool.or_eq_true] at h5
      rcases h5 with h5 | h5
      · obtain ⟨h5, h6⟩ := and_eq h5
        exact ⟨h5, swapped_none h6⟩
      · obtain ⟨h5, h6⟩ := and_eq h5
        exact ⟨h5, swapped_cell (by rw [ck.sc]; exact h6)⟩
    have h5 := hlv0
    obtain ⟨l2, l3⟩ := assign_names (env := X.env) hnames
    refine PS.imp (ps_asg (pe_tup pa) (pg_tup ck.calm hgs rfl l3) rfl sw rfl) fun D σ H hlen h => ?_
    obtain ⟨Z, F, δ, ow, st, h⟩ := h
    refine ⟨Z, F, δ, ow, st, (FP.flow h).imp fun ss δ1 h1 vs' H1 hp => ?_⟩
    obtain ⟨δ', e, h2⟩ := h1.opt
    have hi : ∀ i ∈ is, i < σ.length := fun i hi => by rw [hlen]; exact hix i hi
    obtain ⟨el, _⟩ := par_put hi hk hp (Same.refl _) e h2
    have hlv : ts.length = vs.length := by simpa using h5
    refine ⟨by rw [← el, l1, hlv]; exact okLen_le h4, fun q hq => ?_⟩
    obtain ⟨el, qn⟩ := par_put hi hk hp (same_upd (o := .tup vs') hq) e h2
    exact ⟨q, vs', rfl, SqT.of upd_same, by rw [← el, l1, l2], gNames_set el qn⟩
end
end Ev

set_option Elab.async false
set_option linter.all false
set_option maxRecDepth 100000
set_option maxHeartbeats 4000000
/-! Statements. -/
namespace Ev
open PySem PySem.Spec PyProof.Rows L2
section
variable {S : Sx} {Tl : List (Addr × Str)} {Cv : Str → Value} {n : Nat} {sc : Scope} {W : WX} {X : Cx} {k : Nat → Bool}
variable {a b t v : Expr} {ea eb ei : M RV} {qa qb qi : Bool} {pos p ap : Pos}
theorem blt_lt {a b : Nat} (h : Nat.blt a b = true) : a < b := Nat.blt_eq.mp h
/-- settle and go on -/
theorem FP.settle {K : PySem.W.Frag} {Z F : Hp} {δ : Sts} {σ : L2.St} {H H' : Hp} {D : Ends} {r : RV} {q : Bool} {w : V} {g : Ev.D → Sts → Flow} (hp : PostE K Tl Z F δ σ H r q w H') (h : FP K Tl Cv k W Z F σ ((settle r δ).flow g) D) :
    ∃ d δ', FP K Tl Cv k W Z F σ (g d δ') D ∧ PostE K Tl Z F δ' σ H (.dat d) q w H' := settle_post hp (FP.flow h)
/-! ### expression, return -/
theorem s_expr (he : PE X a (tE X.K Tl Cv W ea qa)) (h1 : isLC a = false) (oa : okE a = true) : PS X (.Expr a pos) (tS X.K Tl Cv k W (fun δ => (ea δ).flow fun _ δ => .next δ)) :=
  PS.imp (ps_expr he (sw_not h1 oa)) fun D σ H _ ⟨Z, F, δ, ow, st, h⟩ => ⟨Z, F, δ, ow, st, (FP.flow h).imp fun r δ1 h1 v H1 ⟨Z1, F1, ow1, g1, f1, st1, r1, s1⟩ => h1 σ H1 (Kp.refl _ _) ⟨Z1, ow1, g1, st1.drop f1⟩⟩
theorem s_ret (he : PE X a (tE X.K Tl Cv W ea qa)) : PS X (.Return (some a) pos) (tS X.K Tl Cv k W (fun δ => (ea δ).flow fun r δ => .ret r δ)) :=
  PS.imp (ps_ret he) fun D σ H _ ⟨Z, F, δ, ow, st, h⟩ => ⟨Z, F, δ, ow, st, (FP.flow h).imp fun r δ1 h1 v H1 hp => h1 σ v H1 (Kp.refl _ _) (hp.weak (Gr.refl _ _) (Same.refl _) fun e => by cases e)⟩
theorem s_retN : PS X (.Return none pos) (tS X.K Tl Cv k W (fun δ => .ret (.dat .none) δ)) :=
  PS.imp ps_retN fun D σ H _ ⟨Z, F, δ, ow, st, h⟩ => h σ .non H (Kp.refl _ _) (post_dat st .non)
/-! ### if -/
theorem s_if {c : Expr} {x y : List Stmt} {ec : M Bool} {ex ey : Sts → Flow} (hc : PT X c (tT X.K Tl Cv W ec)) (hx : PSs X x (tS X.K Tl Cv k W ex)) (hy : PSs X y (tS X.K Tl Cv k W ey)) :
    PS X (.If c x y pos) (tS X.K Tl Cv k W (fun δ => (ec δ).flow fun b δ => if b then ex δ else ey δ)) :=
  PS.imp (ps_if hc hx hy) fun D σ H _ ⟨Z, F, δ, ow, st, h⟩ => ⟨Z, F, δ, ow, st, (FP.flow h).imp fun b δ1 h1 H1 ⟨Z1, ow1, g1, st1⟩ => by
    cases b with
    | true =>
      rw [if_pos rfl] at h1 ⊢
      exact ⟨Z1, F, δ1, ow1, st1, h1.weak g1 (Same.refl _) (Kp.refl _ _)⟩
    | false =>
      rw [if_neg (by simp)] at h1 ⊢
      exact ⟨Z1, F, δ1, ow1, st1, h1.weak g1 (Same.refl _) (Kp.refl _ _)⟩⟩
/-! ### name op= value -/
theorem augV_ok (op : Op) : PIp X (opOf op) (fun x y H Q => ∃ (Z : Hp) (dx dy dz : Ev.D), Rp X.K Z x dx ∧ Rp X.K Z y dy ∧ augV op dx dy = some dz ∧ ∀ z, (∀ Z', Rp X.K Z' z dz) → Q z H) := by
  intro pins s σ H x y v u Q I rx ry h
  obtain ⟨Z, dx, dy, dz, hx, hy, e, q⟩ := h
  cases hx with
  | int i => cases hy with
    | int j =>
      cases op with
      | add => cases e; exact iop_add pins s σ H _ _ v u Q I rx ry ⟨i, j, rfl, rfl, q _ fun _ => .int _⟩
      | sub => cases e; exact iop_sub pins s σ H _ _ v u Q I rx ry ⟨i, j, rfl, rfl, q _ fun _ => .int _⟩
      | mul =>
        simp only [augV] at e
        split at e
        · rename_i hm
          cases e
          unfold mulOk at hm
          simp only [Bool.or_eq_true, Bool.and_eq_true, decide_eq_true_eq] at hm
          exact iop_mul pins s σ H _ _ v u Q I rx ry ⟨i, j, rfl, rfl, hm, q _ fun _ => .int _⟩
        · cases e
      | fdiv =>
        simp only [augV] at e
        split at e
        · rename_i hm
          cases e
          simp only [Bool.and_eq_true, decide_eq_true_eq] at hm
          exact iop_fdiv pins s σ H _ _ v u Q I rx ry ⟨i, j, rfl, rfl, hm, q _ fun _ => .int _⟩
        · cases e
      | mod =>
        simp only [augV] at e
        split at e
        · rename_i hm
          cases e
          simp only [decide_eq_true_eq] at hm
          exact iop_mod pins s σ H _ _ v u Q I rx ry ⟨i, j, rfl, rfl, hm, q _ fun _ => .int _⟩
        · cases e
      | pow => cases e
    | _ => cases e
  | str i => cases hy with
    | str j =>
      cases op with
      | add =>
        simp only [augV] at e
        split at e
        · rename_i hm
          cases e
          exact iop_add_str pins s σ H _ _ v u Q I rx ry ⟨i, j, rfl, rfl, okLen_le hm, q _ fun _ => .str _⟩
        · cases e
      | _ => cases e
    | _ => cases e
  | _ => cases e
theorem s_aug (ck : Sok S Tl Cv n sc W X) {i : Nat} {op : Op} {x : Str} (h1 : nmB S.N i x = true) (h2 : locB sc x = true) (h3 : k i = false) (he : PE X a (tE X.K Tl Cv W ea qa)) :
    PS X (.AugAssign (.Name x p) (opOf op) a pos) (tS X.K Tl Cv k W (fun δ => match getS δ i with
      | .dat x => (ea δ).flow fun r δ => (match r with
        | .dat y => (match augV op x y with
          | some z => .next (δ.set i (.dat z))
          | none => .stuck)
        | _ => .stuck)
      | _ => .stuck)) := by
  obtain ⟨e1, e2, e3⟩ := nm_of h1
  have hx : X.N[i]? = some x := by rw [ck.N]; exact e1
  refine PS.imp (ps_aug (by rw [ck.N]; exact ck.nd) hx (ck.toCok.loc h2) he (augV_ok op) (.inl (ck.fnT x))) fun D σ H hlen ⟨Z, F, δ, ow, st, h⟩ => ?_
  have hl : i < σ.length := by rw [hlen]; exact (List.getElem?_eq_some_iff.mp hx).1
  dsimp only at h
  split at h
  · rename_i dx hd
    have hne : getS δ i ≠ .emp := by rw [hd]; exact fun z => by cases z
    obtain ⟨w, ew, hs⟩ := st.sl i hne
    rw [hd] at hs
    refine ⟨w, ew, Z, F, δ, ow, st, (FP.flow h).imp fun r δ1 h1 y H1 ⟨Z1, F1, ow1, g1, f1, st1, r1, s1⟩ => ?_⟩
    cases r with
    | dat dy =>
      dsimp only at h1
      split at h1
      · rename_i dz e
        exact ⟨Z1, dx, dy, dz, hs.1.mono g1.s, r1, e, fun z hz => h1 _ H1 (Kp.set h3) ⟨Z1, _, g1, put_dat (st1.drop f1) hl (hz _)⟩⟩
      · exact h1.elim
    | _ => exact (show False from h1).elim
  · exact h.elim
/-! ### append, extend -/
theorem few_one {cpos : Pos} (oa : okE a = true) : ((backTo cpos (starEach [a] X.env)).all (fun x => !x.1) && (backToKw cpos (keywordEach [] X.env)).all (fun x => x.1.isSome) && decide (([a] : List Expr).length + ([] : List Keyword).length + (if ([] : List Keyword).isEmpty then 0 else 1) < 30)) = true := by
  rw [star_one oa]; rfl
theorem s_app (ck : Sok S Tl Cv n sc W X) {i : Nat} {x : Str} (h1 : nmB S.N i x = true) (h2 : visB sc x = true) (hln : (ap.endLine == pos.line) = true) (oa : okE a = true) (he : PE X a (tE X.K Tl Cv W ea qa)) {ep : Pos} :
    PS X (.Expr (.Call (.Attribute (.Name x p) "append" ap) [a] [] pos) ep) (tS X.K Tl Cv k W (fun δ => match getS δ i with
      | .lst _ => (ea δ).flow fun r δ => (settle r δ).flow fun d δ => (match getS δ i with
        | .lst ds => if Nat.blt ds.length line then .next (δ.set i (.lst (ds ++ [d]))) else .stuck
        | _ => .stuck)
      | _ => .stuck)) := by
  obtain ⟨e1, e2, e3⟩ := nm_of h1
  have hx : X.N[i]? = some x := by rw [ck.N]; exact e1
  refine PS.imp (ps_expr (pe_bm PySem.F.plainAttrs_list PySem.F.slot_list_append PySem.F.type_list_append mt_append (pe_var hx (ck.toCok.vis h2) e2 e3) (pa_cons he pa_nil (star_one oa)) rfl (few_one oa) hln (star_one oa) rfl) rfl) fun D σ H hlen ⟨Z, F, δ, ow, st, h⟩ => ?_
  dsimp only at h
  split at h
  · rename_i ds0 hd
    have hne : getS δ i ≠ .emp := by rw [hd]; exact fun z => by cases z
    obtain ⟨w, ew, hs⟩ := st.sl i hne
    rw [hd] at hs
    obtain ⟨l, vs0, rfl, hl0, r0, hB0⟩ := hs
    refine ⟨_, ew, .inl ⟨rfl, vs0, SqL.of hl0⟩, Z, F, δ, ow, st, (FP.flow h).imp fun r δ1 h1 y H1 hp => ?_⟩
    obtain ⟨d, δ2, h2, Z1, F1, ow1, g1, f1, st1, r1, s1⟩ := FP.settle hp h1
    split at h2
    · rename_i ds hd2
      by_cases hlt : Nat.blt ds.length line = true
      · rw [if_pos hlt] at h2
        have hne2 : getS δ2 i ≠ .emp := by rw [hd2]; exact fun z => by cases z
        obtain ⟨w2, ew2, hs2⟩ := st1.sl i hne2
        rw [ew] at ew2
        cases ew2
        rw [hd2] at hs2
        obtain ⟨l2, vs, e, hl, rr, hB⟩ := hs2
        cases e
        have hlt := blt_lt hlt
        rw [line_eq] at hlt
        refine ⟨l, vs, y, rfl, rfl, hl, by rw [rr.len]; exact hlt, h2 σ _ (Kp.refl _ _) ⟨Z1, ow1, g1, ?_⟩⟩
        exact (st1.drop f1).updO (slot_ne hne2) ew hl (by rw [hB]; simp) ⟨l, _, rfl, upd_same, rr.app (.cons r1 .nil), hB⟩
      · rw [if_neg hlt] at h2
        exact h2.elim
    · exact h2.elim
  · exact h.elim
theorem s_ext (ck : Sok S Tl Cv n sc W X) {i : Nat} {x : Str} (h1 : nmB S.N i x = true) (h2 : visB sc x = true) (hln : (ap.endLine == pos.line) = true) (oa : okE a = true) (he : PE X a (tE X.K Tl Cv W ea qa)) {ep : Pos} :
    PS X (.Expr (.Call (.Attribute (.Name x p) "extend" ap) [a] [] pos) ep) (tS X.K Tl Cv k W (fun δ => match getS δ i with
      | .lst _ => (ea δ).flow fun r δ => (settle r δ).flow fun d δ => (match d, getS δ i with
        | .list es, .lst ds => if okLen (ds.length + es.length) then .next (δ.set i (.lst (ds ++ es))) else .stuck
        | _, _ => .stuck)
      | _ => .stuck)) := by
  obtain ⟨e1, e2, e3⟩ := nm_of h1
  have hx : X.N[i]? = some x := by rw [ck.N]; exact e1
  refine PS.imp (ps_expr (pe_bm PySem.F.plainAttrs_list PySem.F.slot_list_extend PySem.F.type_list_extend mt_extend (pe_var hx (ck.toCok.vis h2) e2 e3) (pa_cons he pa_nil (star_one oa)) rfl (few_one oa) hln (star_one oa) rfl) rfl) fun D σ H hlen ⟨Z, F, δ, ow, st, h⟩ => ?_
  dsimp only at h
  split at h
  · rename_i ds0 hd
    have hne : getS δ i ≠ .emp := by rw [hd]; exact fun z => by cases z
    obtain ⟨w, ew, hs⟩ := st.sl i hne
    rw [hd] at hs
    obtain ⟨l, vs0, rfl, hl0, r0, hB0⟩ := hs
    refine ⟨_, ew, .inl ⟨rfl, vs0, SqL.of hl0⟩, Z, F, δ, ow, st, (FP.flow h).imp fun r δ1 h1 y H1 hp => ?_⟩
    obtain ⟨d, δ2, h2, Z1, F1, ow1, g1, f1, st1, r1, s1⟩ := FP.settle hp h1
    cases d with
    | list es =>
      cases hd2 : getS δ2 i with
      | lst ds =>
        rw [hd2] at h2
        change FP X.K Tl Cv k W Z F σ (if okLen (ds.length + es.length) then .next (δ2.set i (.lst (ds ++ es))) else .stuck) D at h2
        by_cases hlt : okLen (ds.length + es.length) = true
        · rw [if_pos hlt] at h2
          have hne2 : getS δ2 i ≠ .emp := by rw [hd2]; exact fun z => by cases z
          obtain ⟨w2, ew2, hs2⟩ := st1.sl i hne2
          rw [ew] at ew2
          cases ew2
          rw [hd2] at hs2
          obtain ⟨l2, vs, e, hl, rr, hB⟩ := hs2
          cases e
          cases r1 with
          | lst hz rz =>
            refine ⟨l, _, vs, _, rfl, rfl, hl, st1.z _ _ hz, by rw [rr.len, rz.len]; exact okLen_le hlt, h2 σ _ (Kp.refl _ _) ⟨Z1, ow1, g1, ?_⟩⟩
            exact (st1.drop f1).updO (slot_ne hne2) ew hl (by rw [hB]; simp) ⟨l, _, rfl, upd_same, rr.app rz, hB⟩
        · rw [if_neg hlt] at h2
          exact h2.elim
      | _ => rw [hd2] at h2; exact (show False from h2).elim
    | _ => exact (show False from h2).elim
  · exact h.elim
end
end Ev

set_option Elab.async false
set_option linter.all false
set_option maxRecDepth 100000
set_option maxHeartbeats 4000000
/-! Stores in things, loops. -/
namespace Ev
open PySem PySem.Spec PyProof.Rows L2
theorem KvR.map_put {K : PySem.W.Frag} {Z : Hp} {κ : Type} [DecidableEq κ] {k : κ} {v : V} {d : Ev.D} (r : Rp K Z v d) : ∀ {a : List (κ × V)} {b : List (κ × Ev.D)}, KvR K Z a b → KvR K Z (a.map fun kv => if kv.1 = k then (kv.1, v) else kv) (b.map fun kv => if kv.1 = k then (kv.1, d) else kv)
  | [], [], _ => trivial
  | (pk, pv) :: a, (qk, qd) :: b, ⟨e, h, t⟩ => by
    have e : pk = qk := e
    subst e
    refine ⟨?_, ?_, KvR.map_put r t⟩
    · by_cases c : pk = k <;> simp [c]
    · by_cases c : pk = k
      · simp [c]; exact r
      · simp [c]; exact h
  | [], _ :: _, h => h.elim
  | _ :: _, [], h => h.elim
theorem KvR.app {K : PySem.W.Frag} {Z : Hp} {κ : Type} {k : κ} {v : V} {d : Ev.D} (r : Rp K Z v d) : ∀ {a : List (κ × V)} {b : List (κ × Ev.D)}, KvR K Z a b → KvR K Z (a ++ [(k, v)]) (b ++ [(k, d)])
  | [], [], _ => ⟨rfl, r, trivial⟩
  | _ :: _, _ :: _, ⟨e, h, t⟩ => ⟨e, h, KvR.app r t⟩
  | [], _ :: _, h => h.elim
  | _ :: _, [], h => h.elim
theorem KvR.keys {K : PySem.W.Frag} {Z : Hp} {κ : Type} [DecidableEq κ] {k : κ} : ∀ {a : List (κ × V)} {b : List (κ × Ev.D)}, KvR K Z a b → (a.any fun kv => decide (kv.1 = k)) = (b.any fun kv => decide (kv.1 = k))
  | [], [], _ => rfl
  | (pk, pv) :: a, (qk, qd) :: b, ⟨e, h, t⟩ => by
    have e : pk = qk := e
    subst e
    rw [List.any_cons, List.any_cons, KvR.keys t]
  | [], _ :: _, h => h.elim
  | _ :: _, [], h => h.elim
theorem KvR.put {K : PySem.W.Frag} {Z : Hp} {κ : Type} [DecidableEq κ] {k : κ} {v : V} {d : Ev.D} {a : List (κ × V)} {b : List (κ × Ev.D)} (h : KvR K Z a b) (r : Rp K Z v d) : KvR K Z (putK a k v) (putA b k d) := by
  unfold putK putA
  rw [h.keys]
  split
  · exact KvR.map_put r h
  · exact KvR.app r h
section
variable {S : Sx} {Tl : List (Addr × Str)} {Cv : Str → Value} {n : Nat} {sc : Scope} {W : WX} {X : Cx} {k : Nat → Bool}
variable {a b t v : Expr} {ea eb ei ej : M RV} {qa qb qi qj : Bool} {pos p ap : Pos}
theorem set_any (hu : X.A.units + 1 < cLine) : PSet X (fun o i v H Q => rSetL o i v H Q ∨ rSetD o i v H Q) := by
  intro pins s σ H o i v ov iv u Q I ro ri rv h
  rcases h with h | h
  · exact set_list pins s σ H o i v ov iv u Q I ro ri rv h
  · exact set_dict hu pins s σ H o i v ov iv u Q I ro ri rv h
theorem hasS_ne {δ : Sts} {x : Nat} (h : hasS δ x = true) : getS δ x ≠ .emp := fun e => by unfold hasS at h; rw [e] at h; cases h
theorem asg_noslice {o i : Expr} (hi : okE i = true) (v : Value) : assign (.Subscript o i pos) X.env v = (do
      let ov ← holding [v] (eval o X.env)
      let iv ← holding [v, ov] (eval i X.env)
      standAt pos
      holding [v, ov, iv] (setItem ov iv v)
      release [v, ov, iv] []) := by
  cases i <;> first | rfl | exact absurd hi Bool.false_ne_true
theorem s_sub (ck : Sok S Tl Cv n sc W X) {x : Nat} {y : Str} {j : Expr} {sp : Pos} (h1 : nmB S.N x y = true) (h2 : visB sc y = true) (oj : okE j = true) (hi : PE X j (tE X.K Tl Cv W ei qi)) (he : PE X a (tE X.K Tl Cv W ea qa)) :
    PS X (.Assign [.Subscript (.Name y p) j sp] a pos) (tS X.K Tl Cv k W (fun δ => (ea δ).flow fun r δ => (settle r δ).flow fun d δ => if hasS δ x then
      (ei δ).flow fun ri δ => (match ri with
        | .dat k => Flow.ofOpt ((putV (getS δ x) k d).map fun s => δ.set x s)
        | _ => .stuck) else .stuck)) := by
  obtain ⟨e1, e2, e3⟩ := nm_of h1
  have hx : X.N[x]? = some y := by rw [ck.N]; exact e1
  refine PS.imp (ps_asg he (pg_sub (pe_var hx (ck.toCok.vis h2) e2 e3) hi (set_any (by have := ck.toCok.u65; omega)) (asg_noslice oj)) ((sole_eq _ _ _ _).trans sw_sub) st_sub rfl) fun D σ H hlen ⟨Z, F, δ, ow, st, h⟩ => ?_
  refine ⟨Z, F, δ, ow, st, (FP.flow h).imp fun r δ1 h1 v H1 hp => ?_⟩
  obtain ⟨d, δ2, h2, Z1, F1, ow1, g1, f1, st1, r1, s1⟩ := FP.settle hp h1
  by_cases hh : hasS δ2 x = true
  · rw [if_pos hh] at h2
    obtain ⟨w, ew, _⟩ := st1.sl x (hasS_ne hh)
    refine ⟨w, ew, Z1, F, δ2, ow1, st1.drop f1, ((FP.flow h2).weak g1 (Same.refl _)).imp fun ri δ3 h3 iv H3 ⟨Z3, F3, ow3, g3, f3, st3, r3, s3⟩ => ?_⟩
    cases ri with
    | dat kd =>
      obtain ⟨δ', e, h4⟩ := h3.opt
      obtain ⟨s', e5, e6⟩ := Option.map_eq_some_iff.mp e
      subst e6
      have hne : getS δ3 x ≠ .emp := fun z => by rw [z] at e5; cases e5
      obtain ⟨w2, ew2, hs⟩ := st3.sl x hne
      rw [ew] at ew2
      cases ew2
      have hi3 := slot_ne hne
      have r1' : Rp X.K Z3 v d := Rp.mono g3.s r1
      have g13 := g1.trans (Same.refl _) g3
      have fin : ∀ l o o', w = .ref l → H3 l = some o → l ∈ ow3 x → SlR X.K Z3 (upd H3 l o') s' w (ow3 x) → D.nx σ (upd H3 l o') := fun l o o' el ho hm hs' => by
        exact h4 σ _ (Kp.refl _ _) ⟨Z3, ow3, g13, ((st3.drop f3).updO hi3 ew ho hm hs')⟩
      revert hs e5
      cases hsl : getS δ3 x with
      | lst ds =>
        intro e5 ⟨l, vs, ew', hl, rr, hB⟩
        cases kd with
        | int j' =>
          obtain ⟨ds', e7, e8⟩ := Option.map_eq_some_iff.mp (show (setIn ds j' d).map Slot.lst = some s' from e5)
          subst e8
          unfold setIn at e7
          obtain ⟨nn, e9, e10⟩ := Option.map_eq_some_iff.mp e7
          subst e10
          have e11 : iv = .int j' := rp_int r3
          refine .inl ⟨l, vs, j', nn, ew', e11, hl, by rw [rr.len]; exact e9, fin l _ _ ew' hl (by rw [hB]; simp) ⟨l, _, ew', upd_same, rr.set r1', hB⟩⟩
        | _ => cases e5
      | dK kvs =>
        intro e5 ⟨l, ps, ew', hl, rr, hB⟩
        have e5 : (if Nat.blt kvs.length line then (keyOf kd).map fun k => Slot.dK (putA kvs k d) else none) = some s' := e5
        by_cases hlt : Nat.blt kvs.length line = true
        · rw [if_pos hlt] at e5
          obtain ⟨kk, e7, e8⟩ := Option.map_eq_some_iff.mp e5
          subst e8
          have e9 : iv = kV kk := key_of r3 e7
          have hlt := blt_lt hlt
          rw [line_eq] at hlt
          refine .inr ⟨l, _, ew', by rw [e9]; exact DPut.k hl (by rw [rr.len]; exact hlt), fin l _ _ ew' hl (by rw [hB]; simp) ⟨l, _, ew', upd_same, rr.put r1', hB⟩⟩
        · rw [if_neg hlt] at e5; cases e5
      | dT kvs =>
        intro e5 ⟨l, ps, ew', hl, rr, hB⟩
        cases kd with
        | tuple ks =>
          have e5 : (if Nat.blt kvs.length line then (keysOf ks).map fun k => Slot.dT (putA kvs k d) else none) = some s' := e5
          by_cases hlt : Nat.blt kvs.length line = true
          · rw [if_pos hlt] at e5
            obtain ⟨kk, e7, e8⟩ := Option.map_eq_some_iff.mp e5
            subst e8
            cases r3 with
            | tup hz rz =>
              have e9 := keys_of rz e7
              subst e9
              have hlt := blt_lt hlt
              rw [line_eq] at hlt
              refine .inr ⟨l, _, ew', DPut.t hl (st3.z _ _ hz) (by rw [rr.len]; exact hlt), fin l _ _ ew' hl (by rw [hB]; simp) ⟨l, _, ew', upd_same, rr.put r1', hB⟩⟩
          · rw [if_neg hlt] at e5; cases e5
        | _ => cases e5
      | _ => intro e5; cases e5
    | _ => exact (show False from h3).elim
  · rw [if_neg hh] at h2
    exact h2.elim
/-! ### loops -/
theorem s_for (ck : Sok S Tl Cv n sc W X) {tg : Tg} {e : Expr} {x : List Stmt} {evi : M (List Ev.D)} {evb : Sts → Flow} (hsto : StoT X tg t) (hk : ∀ i ∈ tg.ix, k i = false) (hi : PI X t e (tI X.K Tl Cv W evi)) (hs : ∀ x, foldedSetIterable e X.env x = pure x) (hb : PSs X x (tS X.K Tl Cv k W evb)) :
    PS X (.For t e x [] pos) (tS X.K Tl Cv k W (fun δ => (evi δ).flow fun ds δ => forF (fun d δ => match asgD tg d δ with
      | some δ => evb δ
      | none => .stuck) ds δ)) := by
  refine PS.imp (ps_for ck.pown ck.calm hi (hsto.pg (Tl := Tl) ck.calm) hb hs) fun D σ H hlen ⟨Z, F, δ, ow, st, h⟩ => ?_
  refine ⟨Z, F, δ, ow, st, (FP.flow h).imp fun ds δ1 h1 J H1 Z1 ow1 g1 st1 it => ?_⟩
  let step : Ev.D → Sts → Flow := fun d δ => match asgD tg d δ with
      | some δ => evb δ
      | none => .stuck
  let P : Nat → L2.St → Hp → Prop := fun i σi Hi => ∃ Z2 ow2 δ2, Kp k σ σi ∧ Gr Z1 F Z2 ∧ StR X.K Tl Z2 F δ2 σi Hi ow2 ∧ FP X.K Tl Cv k W Z F σ (forF step (ds.drop i) δ2) D
  refine ⟨fun i m σi Hi => m = ds.length - i ∧ i ≤ ds.length ∧ P i σi Hi, ⟨ds.length, by simp, Nat.zero_le _, Z1, ow1, δ1, Kp.refl _ _, Gr.refl _ _, st1, h1⟩, ?_⟩
  rintro i m σi Hi ⟨rfl, hil, Z2, ow2, δ2, kp, g2, st2, hr⟩
  by_cases hlt : i < ds.length
  · refine .inr ⟨it.go i Hi (g2.s.trans st2.z) hlt, P (i + 1), fun σ' H' p => ⟨ds.length - (i + 1), by omega, rfl, hlt, p⟩, fun x H' hy => ?_⟩
    rw [drop_at hlt] at hr
    unfold forF at hr
    obtain ⟨Z3, F3, ow3, g3, f3, st3, r3, _⟩ := new_post (H0 := Hi) (q := true) st2 (Gr.refl _ _) (Same.refl _) (fun _ => Same.refl _) ((it.mono g2.s).yl i Hi ds[i] x H' st2.z (by simp [hlt]) hy)
    cases ea : asgD tg ds[i] δ2 with
    | none =>
      have : step ds[i] δ2 = .stuck := by
        show (match asgD tg ds[i] δ2 with
          | some δ => evb δ
          | none => .stuck) = _
        rw [ea]
      rw [this] at hr
      exact hr.elim
    | some δa =>
      have es : step ds[i] δ2 = evb δa := by
        show (match asgD tg ds[i] δ2 with
          | some δ => evb δ
          | none => .stuck) = _
        rw [ea]
      rw [es] at hr
      refine ⟨Z3, F, δ2, ow3, ds[i], δa, st3.drop f3, r3, ea, fun σ' ow' off st' => ⟨Z3, F, δa, ow', st', ?_⟩⟩
      have kp' : Kp k σ σ' := kp.trans (Kp.off off hk)
      have g23 : Gr Z1 F Z3 := g2.trans (Same.refl _) g3
      have g03 : Gr Z F Z3 := g1.trans (Same.refl _) g23
      revert hr
      cases evb δa with
      | next δ' => exact fun hr σ'' H'' k2 ⟨Z4, ow4, g4, st4⟩ => ⟨Z4, ow4, δ', kp'.trans k2, g23.trans (Same.refl _) g4, st4, hr⟩
      | cnt δ' => exact fun hr σ'' H'' k2 ⟨Z4, ow4, g4, st4⟩ => ⟨Z4, ow4, δ', kp'.trans k2, g23.trans (Same.refl _) g4, st4, hr⟩
      | brk δ' => exact fun hr σ'' H'' k2 hp => hr σ'' H'' (kp'.trans k2) (hp.weak g03 (Same.refl _))
      | ret r δ' => exact fun hr σ'' v H'' k2 hp => hr σ'' v H'' (kp'.trans k2) (hp.weak g03 (Same.refl _) fun e => by cases e)
      | exc c δ' => exact fun hr σ'' H'' k2 hp => hr σ'' H'' (kp'.trans k2) (hp.weak g03 (Same.refl _))
      | stuck => exact fun hr => hr.elim
  · have e : i = ds.length := by omega
    subst e
    rw [List.drop_eq_nil_of_le (Nat.le_refl _)] at hr
    exact .inl ⟨it.st _ Hi (g2.s.trans st2.z) (Nat.le_refl _), hr σi Hi kp ⟨Z2, ow2, g1.trans (Same.refl _) g2, st2⟩⟩
theorem s_while (ck : Sok S Tl Cv n sc W X) {x : List Stmt} {evt : M Bool} {evb : Sts → Flow} {N : Nat} (ht : PT X t (tT X.K Tl Cv W evt)) (hb : PSs X x (tS X.K Tl Cv k W evb)) :
    PS X (.While t x [] pos) (tS X.K Tl Cv k W (fun δ => whileF evt evb N δ)) := by
  refine PS.imp (ps_while ck.pown ht hb) fun D σ H hlen ⟨Z, F, δ, ow, st, h⟩ => ?_
  let P : Nat → L2.St → Hp → Prop := fun m σi Hi => ∃ Z2 ow2 δ2, StR X.K Tl Z2 F δ2 σi Hi ow2 ∧ FP X.K Tl Cv k W Z2 F σi (whileF evt evb m δ2) D
  refine ⟨P, ⟨N, Z, ow, δ, st, h⟩, ?_⟩
  rintro m σi Hi ⟨Z2, ow2, δ2, st2, hr⟩
  cases m with
  | zero => exact (show False from hr).elim
  | succ m =>
    unfold whileF at hr
    refine ⟨Z2, F, δ2, ow2, st2, (FP.flow hr).imp fun b δ3 h3 H3 ⟨Z3, ow3, g3, st3⟩ => ?_⟩
    cases b with
    | true =>
      rw [if_pos rfl] at h3 ⊢
      refine ⟨P m, fun σ' H' p => ⟨m, Nat.lt_succ_self m, p⟩, Z3, F, δ3, ow3, st3, ?_⟩
      revert h3
      cases evb δ3 with
      | next δ' => exact fun h3 σ'' H'' k2 ⟨Z4, ow4, g4, st4⟩ => ⟨Z4, ow4, δ', st4, FP.weak h3 (g3.trans (Same.refl _) g4) (Same.refl _) k2⟩
      | cnt δ' => exact fun h3 σ'' H'' k2 ⟨Z4, ow4, g4, st4⟩ => ⟨Z4, ow4, δ', st4, FP.weak h3 (g3.trans (Same.refl _) g4) (Same.refl _) k2⟩
      | brk δ' => exact fun h3 σ'' H'' k2 hp => h3 σ'' H'' k2 (hp.weak g3 (Same.refl _))
      | ret r δ' => exact fun h3 σ'' v H'' k2 hp => h3 σ'' v H'' k2 (hp.weak g3 (Same.refl _) fun e => by cases e)
      | exc c δ' => exact fun h3 σ'' H'' k2 hp => h3 σ'' H'' k2 (hp.weak g3 (Same.refl _))
      | stuck => exact fun h3 => h3.elim
    | false =>
      rw [if_neg (by simp)] at h3 ⊢
      exact h3 σi H3 (Kp.refl _ _) ⟨Z3, ow3, g3, st3⟩
end
end Ev

set_option Elab.async false
set_option linter.all false
set_option maxRecDepth 100000
set_option maxHeartbeats 4000000
/-! Every statement. -/
namespace Ev
open PySem PySem.Spec PyProof.Rows L2
section
variable {S : Sx} {Tl : List (Addr × Str)} {Cv : Str → Value} {n : Nat} {sc : Scope} {W : WX} {X : Cx} {k : Nat → Bool}
variable {a b t v : Expr} {ea eb ei ej : M RV} {qa qb qi qj : Bool} {pos p ap : Pos}
/-! ### rows -/
theorem rows_set {K : PySem.W.Frag} {Z G : Hp} {r : Addr} {us : List V} {es : List Ev.D} (ru : RpL K Z us es) : ∀ {as : List Addr} {dss : List (List Ev.D)} {i : Nat}, as.Nodup → RowsR K Z G as dss → as[i]? = some r → RowsR K Z (upd G r (.lst us)) as (dss.set i es)
  | [], [], i, _, _, e => by simp at e
  | b :: as, ds :: dss, 0, nd, ⟨⟨vs, e1, r1⟩, tl⟩, e => by
    have : b = r := by simpa using e
    subst this
    refine ⟨⟨us, upd_same, ru⟩, tl.mono (Same.refl _) fun c m o ho => ?_⟩
    rw [upd_ne (fun z : c = b => (List.nodup_cons.mp nd).1 (z ▸ m))]; exact ho
  | b :: as, ds :: dss, i + 1, nd, ⟨⟨vs, e1, r1⟩, tl⟩, e => by
    have e' : as[i]? = some r := by simpa using e
    have hb : b ≠ r := fun z => (List.nodup_cons.mp nd).1 (z ▸ List.mem_of_getElem? e')
    exact ⟨⟨vs, by rw [upd_ne hb]; exact e1, r1⟩, rows_set ru (List.nodup_cons.mp nd).2 tl e'⟩
  | [], _ :: _, _, _, h, _ => h.elim
  | _ :: _, [], _, _, h, _ => h.elim
theorem ref_inj : ∀ {as bs : List Addr}, as.map V.ref = bs.map V.ref → as = bs
  | [], [], _ => rfl
  | a :: as, b :: bs, h => by
    rw [List.map_cons, List.map_cons] at h
    injection h with h1 h2
    injection h1 with h1
    rw [h1, ref_inj h2]
  | [], _ :: _, h => by cases h
  | _ :: _, [], h => by cases h
theorem s_sub2 (ck : Sok S Tl Cv n sc W X) {x : Nat} {y : Str} {u w : Expr} {sp sp2 : Pos} (h1 : nmB S.N x y = true) (h2 : visB sc y = true) (ou : okE u = true) (ow' : okE w = true) (hi : PE X u (tE X.K Tl Cv W ei qi)) (hj : PE X w (tE X.K Tl Cv W ej qj)) (he : PE X a (tE X.K Tl Cv W ea qa)) :
    PS X (.Assign [.Subscript (.Subscript (.Name y p) u sp2) w sp] a pos) (tS X.K Tl Cv k W (fun δ => (ea δ).flow fun r δ => (settle r δ).flow fun d δ => if hasS δ x then
      (ei δ).flow fun ri δ => (match ri, getS δ x with
        | .dat (.int a), .rows dss => if (L2.atI dss a).isSome && qj then (ej δ).flow fun rj δ => (match rj, getS δ x with
          | .dat (.int b), .rows dss => Flow.ofOpt ((L2.ixN dss.length a).bind fun n => (dss[n]?).bind fun ds => (setIn ds b d).map fun ds => δ.set x (.rows (dss.set n ds)))
          | _, _ => .stuck) else .stuck
        | _, _ => .stuck) else .stuck)) := by
  obtain ⟨e1, e2, e3⟩ := nm_of h1
  have hx : X.N[x]? = some y := by rw [ck.N]; exact e1
  refine PS.imp (ps_asg he (pg_sub (pe_ix ix_list (pe_var hx (ck.toCok.vis h2) e2 e3) hi (ok_plain ou)) hj set_list (asg_noslice ow')) ((sole_eq _ _ _ _).trans sw_sub) st_sub rfl) fun D σ H hlen ⟨Z, F, δ, ow, st, h⟩ => ?_
  refine ⟨Z, F, δ, ow, st, (FP.flow h).imp fun r δ1 h1 v H1 hp => ?_⟩
  obtain ⟨d, δ2, h2, Z1, F1, ow1, g1, f1, st1, r1, s1⟩ := FP.settle hp h1
  by_cases hh : hasS δ2 x = true
  · rw [if_pos hh] at h2
    obtain ⟨w', ew, _⟩ := st1.sl x (hasS_ne hh)
    refine ⟨w', ew, Z1, F, δ2, ow1, st1.drop f1, ((FP.flow h2).weak g1 (Same.refl _)).imp fun ri δ3 h3 iv H3 ⟨Z3, F3, ow3, g3, f3, st3, r3, s3⟩ => ?_⟩
    cases ri with
    | dat kd => cases kd with
      | int ai =>
        cases hsl : getS δ3 x with
        | rows dss =>
          rw [hsl] at h3
          change FP X.K Tl Cv k W Z F σ (if (L2.atI dss ai).isSome && qj then _ else _) D at h3
          by_cases hc : ((L2.atI dss ai).isSome && qj) = true
          · rw [if_pos hc] at h3
            obtain ⟨hc1, hc2⟩ := and_eq hc
            subst hc2
            obtain ⟨ds, eds⟩ := Option.isSome_iff_exists.mp hc1
            have hne : getS δ3 x ≠ .emp := by rw [hsl]; exact fun z => by cases z
            obtain ⟨w2, ew2, hs⟩ := st3.sl x hne
            rw [ew] at ew2
            cases ew2
            rw [hsl] at hs
            obtain ⟨l, as, rfl, hl, rr, hB, nd⟩ := hs
            obtain ⟨ra, vs, ea1, ea2, ea3⟩ := atI_rows rr eds
            have g13 := g1.trans (Same.refl _) g3
            refine ⟨l, as.map V.ref, ai, .ref ra, rfl, rp_int r3, SqL.of hl, ea1, Z3, F, δ3, ow3, st3.drop f3, ((FP.flow h3).weak g13 (Same.refl _)).imp fun rj δ4 h4 jv H4 ⟨Z4, F4, ow4, g4, f4, st4, r4, s4⟩ => ?_⟩
            cases rj with
            | dat kd => cases kd with
              | int bj =>
                cases hsl4 : getS δ4 x with
                | rows dss4 =>
                  rw [hsl4] at h4
                  obtain ⟨δ', e, h5⟩ := h4.opt
                  obtain ⟨nn, e6, e⟩ := Option.bind_eq_some_iff.mp e
                  obtain ⟨ds4, e7, e⟩ := Option.bind_eq_some_iff.mp e
                  obtain ⟨ds5, e8, e⟩ := Option.map_eq_some_iff.mp e
                  subst e
                  unfold setIn at e8
                  obtain ⟨mm, e9, e10⟩ := Option.map_eq_some_iff.mp e8
                  subst e10
                  have hne4 : getS δ4 x ≠ .emp := by rw [hsl4]; exact fun z => by cases z
                  obtain ⟨w4, ew4, hs4⟩ := st4.sl x hne4
                  rw [ew] at ew4
                  cases ew4
                  rw [hsl4] at hs4
                  obtain ⟨l4, as4, el4, hl4, rr4, hB4, nd4⟩ := hs4
                  cases el4
                  -- the same rows
                  have hsame := s4 rfl
                  have e11 := hsame _ _ hl
                  rw [hl4] at e11
                  have e12 : as4.map V.ref = as.map V.ref := by
                    have := Option.some.inj e11
                    injection this
                  have e13 : as4 = as := ref_inj e12
                  subst e13
                  obtain ⟨r', vs4, e14, e15, e16⟩ := rr4.get e7
                  have hlen4 := rr4.len
                  have e17 : r' = ra := by
                    unfold atI at ea1
                    rw [List.length_map, hlen4, e6] at ea1
                    have ea1 : (as4.map V.ref)[nn]? = some (.ref ra) := ea1
                    rw [List.getElem?_map, e14] at ea1
                    cases ea1; rfl
                  subst e17
                  have hm : r' ∈ as4 := List.mem_of_getElem? e14
                  have hmB : r' ∈ ow4 x := by rw [hB4]; exact List.mem_cons_of_mem _ hm
                  have lr : l ≠ r' := fun z => (List.nodup_cons.mp nd4).1 (z ▸ hm)
                  have r1' : Rp X.K Z4 v d := Rp.mono (g3.s.trans g4.s) r1
                  refine ⟨r', vs4, bj, mm, rfl, rp_int r4, e15, by rw [e16.len]; exact e9, h5 σ _ (Kp.refl _ _) ⟨Z4, ow4, g13.trans (Same.refl _) g4, (st4.drop f4).updO (slot_ne hne4) ew e15 hmB ?_⟩⟩
                  exact ⟨l, as4, rfl, by rw [upd_ne lr]; exact hl4, rows_set (e16.set r1') (List.nodup_cons.mp nd4).2 rr4 e14, hB4, nd4⟩
                | _ => rw [hsl4] at h4; exact (show False from h4).elim
              | _ => exact (show False from h4).elim
            | _ => exact (show False from h4).elim
          · rw [if_neg hc] at h3
            exact h3.elim
        | _ => rw [hsl] at h3; exact (show False from h3).elim
      | _ => exact (show False from h3).elim
    | _ => exact (show False from h3).elim
  · rw [if_neg hh] at h2
    exact h2.elim
/-! ### raise X() -/
theorem pmk_own0 {C : Addr} {bmB : List Value} {B newId initId : String} {x : Str} (F : ExcBaseFacts B newId initId bmB) (q : PySem.W.excIn X.K C bmB newId = true) (gC : X.mg x = some (.ref C)) (kC : PySem.W.keepIn X.K (.ref C) = true) (r : Raises X (.ref C)) (hg : Gl X x) (hdb : (x == ("__debug__" : Str)) = false) :
    PMk X (.Call (.Name x p) [] [] pos) (fun σ H Q => Q (.ref C) none H) := by
  intro pins s σ H Q I h
  refine wpAny_Call_Name_kw (ld_glob I hg gC ?_ hdb)
  refine PySem.W.callWith_K0 I.kIn kC ?_
  show wpAny _ _ (call (.ref C) []) _ _ _
  obtain ⟨bm, N, nm, qn, bs, hdct, sn, sub, ab, col, dd, k0, k1, k2, k3, k5, mN, hC, hN, hni, T⟩ := exc_obj I.kIn q
  refine wpAny_call_exc_subT F T hC hN hni (fun h' e hm => ?_) (by show 0 ≤ sizeLine; omega)
  exact mk_of I hm r h (I.hok.gone hm.new)
theorem s_raise (ck : Sok S Tl Cv n sc W X) {x : Str} (h1 : glB sc x = true) (h2 : x ∈ S.CT) : PS X (.Raise (some (.Call (.Name x p) [] [] ap)) none pos) (tS X.K Tl Cv k W (fun δ => .exc x δ)) := by
  obtain ⟨C, bmB, B, newId, initId, F, q, gC, kC, rb, rt, hC⟩ := ck.glo.exc x h2
  obtain ⟨g1, g2⟩ := ck.toCok.gl h1
  refine PS.imp (ps_raise ck.calm ck.tk (pmk_own0 F q gC kC (raises_own rb rt) g1 g2)) fun D σ H hlen ⟨Z, F, δ, ow, st, h⟩ => ?_
  have := h σ H (Kp.refl _ _) ⟨Z, ow, Gr.refl _ _, st⟩
  rw [hC] at this
  exact this
/-! ### every statement -/
theorem zero_tup {is : List Nat} {ts : List Expr} {kt kt' : Nat} {pt pt' : Pos} (h : tgB S.N sc (.tup is) (.Tuple ts kt pt) = true) : tgB S.N sc (.tup is) (.Tuple ts kt' pt') = true := h
mutual
theorem sS (ck : Sok S Tl Cv n sc W X) : ∀ (s : Ev.S) {a : Stmt}, chkS S k s sc a = true → PS X a (tS X.K Tl Cv k W (evS (evF S.T n) s))
  | .set tg e, a, h => by
    unfold chkS at h
    split at h
    · obtain ⟨h, h4⟩ := and_eq h
      obtain ⟨h, h3⟩ := and_eq h
      obtain ⟨h1, h2⟩ := and_eq h
      exact sSet ck h1 h2 h3 h4
    · cases h
  | .par is es, a, h => by
    unfold chkS at h
    split at h
    · obtain ⟨h, h5⟩ := and_eq h
      obtain ⟨h, h4⟩ := and_eq h
      obtain ⟨h, h3⟩ := and_eq h
      obtain ⟨h1, h2⟩ := and_eq h
      exact sParS ck (zero_tup h1) h2 h3 h4 h5
    · cases h
  | .setSub x i e, a, h => by
    unfold chkS at h
    split at h
    · obtain ⟨h, h4⟩ := and_eq h
      obtain ⟨h, h3⟩ := and_eq h
      obtain ⟨h1, h2⟩ := and_eq h
      exact s_sub ck h1 h2 (chk_ok h3) (sE i ck.toCok h3) (sE e ck.toCok h4)
    · cases h
  | .setSub2 x i j e, a, h => by
    unfold chkS at h
    split at h
    · obtain ⟨h, h5⟩ := and_eq h
      obtain ⟨h, h4⟩ := and_eq h
      obtain ⟨h, h3⟩ := and_eq h
      obtain ⟨h1, h2⟩ := and_eq h
      exact s_sub2 ck h1 h2 (chk_ok h3) (chk_ok h4) (sE i ck.toCok h3) (sE j ck.toCok h4) (sE e ck.toCok h5)
    · cases h
  | .aug i op e, a, h => by
    unfold chkS at h
    split at h
    · obtain ⟨h, h5⟩ := and_eq h
      obtain ⟨h, h4⟩ := and_eq h
      obtain ⟨h, h3⟩ := and_eq h
      obtain ⟨h1, h2⟩ := and_eq h
      have h1 := of_decide_eq_true h1
      subst h1
      exact s_aug ck h2 h3 (not_eq h4) (sE e ck.toCok h5)
    · cases h
  | .app x e, a, h => by
    unfold chkS at h
    split at h
    · obtain ⟨h, h5⟩ := and_eq h
      obtain ⟨h, h4⟩ := and_eq h
      obtain ⟨h, h3⟩ := and_eq h
      obtain ⟨h1, h2⟩ := and_eq h
      have h1 := of_decide_eq_true h1
      subst h1
      exact s_app ck h3 h4 h2 (chk_ok h5) (sE e ck.toCok h5)
    · cases h
  | .ext x e, a, h => by
    unfold chkS at h
    split at h
    · obtain ⟨h, h5⟩ := and_eq h
      obtain ⟨h, h4⟩ := and_eq h
      obtain ⟨h, h3⟩ := and_eq h
      obtain ⟨h1, h2⟩ := and_eq h
      have h1 := of_decide_eq_true h1
      subst h1
      exact s_ext ck h3 h4 h2 (chk_ok h5) (sE e ck.toCok h5)
    · cases h
  | .expr e, a, h => by
    unfold chkS at h
    split at h
    · obtain ⟨h1, h2⟩ := and_eq h
      exact s_expr (sE e ck.toCok h1) (not_eq h2) (chk_ok h1)
    · cases h
  | .ret e, a, h => by
    unfold chkS at h
    split at h
    · exact s_ret (sE e ck.toCok h)
    · split at h
      · exact s_retN
      · cases h
    · cases h
  | .ite c a b, s, h => by
    unfold chkS at h
    split at h
    · obtain ⟨h, h3⟩ := and_eq h
      obtain ⟨h1, h2⟩ := and_eq h
      exact s_if (sT c ck.toCok h1).1 (sSs ck a h2) (sSs ck b h3)
    · cases h
  | .for tg it b, s, h => by
    unfold chkS at h
    split at h
    · obtain ⟨h, h5⟩ := and_eq h
      obtain ⟨h, h4⟩ := and_eq h
      obtain ⟨h, h3⟩ := and_eq h
      obtain ⟨h1, h2⟩ := and_eq h
      have sto := tgB_sto ck h1
      refine s_for ck sto (fun i hi => by simpa using List.all_eq_true.mp h2 i hi) (sI it ck.toCok h4 fun e => ?_) (chkI_fold h4) (sSs ck b h5)
      cases tg with
      | nm i => rw [itTg_nm e] at h3; cases h3
      | tup is =>
        obtain ⟨es, k, p, e, _⟩ := sto
        exact ⟨es, k, p, e⟩
    · cases h
  | .while c b, s, h => by
    unfold chkS at h
    split at h
    · obtain ⟨h1, h2⟩ := and_eq h
      exact s_while ck (sT c ck.toCok h1).1 (sSs ck b h2)
    · cases h
  | .raise c, s, h => by
    unfold chkS at h
    split at h
    · obtain ⟨h, h3⟩ := and_eq h
      obtain ⟨h1, h2⟩ := and_eq h
      have h1 := of_decide_eq_true h1
      subst h1
      exact s_raise ck h2 (by simpa using h3)
    · cases h
  | .pass, s, h => by
    unfold chkS at h
    split at h
    · exact PS.imp ps_pass fun D σ H _ ⟨Z, F, δ, ow, st, h⟩ => h σ H (Kp.refl _ _) ⟨Z, ow, Gr.refl _ _, st⟩
    · cases h
  | .brk, s, h => by
    unfold chkS at h
    split at h
    · exact PS.imp ps_break fun D σ H _ ⟨Z, F, δ, ow, st, h⟩ => h σ H (Kp.refl _ _) ⟨Z, ow, Gr.refl _ _, st⟩
    · cases h
  | .cnt, s, h => by
    unfold chkS at h
    split at h
    · exact PS.imp ps_continue fun D σ H _ ⟨Z, F, δ, ow, st, h⟩ => h σ H (Kp.refl _ _) ⟨Z, ow, Gr.refl _ _, st⟩
    · cases h
termination_by structural s => s
theorem sSs (ck : Sok S Tl Cv n sc W X) : ∀ (ss : Ss) {l : List Stmt}, chkSs S k ss sc l = true → PSs X l (tS X.K Tl Cv k W (evSs (evF S.T n) ss))
  | .nil, l, h => by
    unfold chkSs at h
    refine docs_run ?_
    cases hd : dropDocs l with
    | nil => exact PSs.imp pss_nil fun D σ H ⟨Z, F, δ, ow, st, h⟩ => h σ H (Kp.refl _ _) ⟨Z, ow, Gr.refl _ _, st⟩
    | cons _ _ => rw [hd] at h; cases h
  | .cons s ss, l, h => by
    unfold chkSs at h
    refine docs_run ?_
    cases hd : dropDocs l with
    | nil => rw [hd] at h; cases h
    | cons a r =>
      rw [hd] at h
      obtain ⟨h1, h2⟩ := and_eq h
      refine PSs.imp (pss_cons (sS ck s h1) (sSs ck ss h2)) fun D σ H ⟨Z, F, δ, ow, st, h⟩ => ⟨Z, F, δ, ow, st, ?_⟩
      change FP X.K Tl Cv k W Z F σ (match evS (evF S.T n) s δ with
        | .next δ => evSs (evF S.T n) ss δ
        | f => f) D at h
      revert h
      cases evS (evF S.T n) s δ with
      | next δ' => exact fun h σ' H' kp ⟨Z1, ow1, g1, st1⟩ => ⟨Z1, F, δ', ow1, st1, FP.weak h g1 (Same.refl _) kp⟩
      | brk δ' => exact fun h => h
      | cnt δ' => exact fun h => h
      | ret r δ' => exact fun h => h
      | exc c δ' => exact fun h => h
      | stuck => exact fun h => h
termination_by structural ss => ss
end
end
end Ev

set_option Elab.async false
set_option linter.all false
set_option maxRecDepth 100000
set_option maxHeartbeats 400000
/-! Defs. -/
namespace Ev
open PySem PySem.Spec PyProof.Rows L2
theorem zip_look : ∀ {ps : List Str} {us : List Value}, ps.Nodup → us.length = ps.length → (ps.filter fun n => ((ps.zip us).lookup n).isNone) = [] ∧ (ps.filterMap fun n => ((ps.zip us).lookup n).map (n, ·)) = ps.zip us := by
  have key : ∀ (ps : List Str) (us : List Value) (l : List (Str × Value)), ps.Nodup → us.length = ps.length → (∀ p ∈ ps, l.lookup p = none) → (∀ n ∈ ps, ((l ++ ps.zip us).lookup n).isNone = false) ∧ (ps.filterMap fun n => ((l ++ ps.zip us).lookup n).map (n, ·)) = ps.zip us := by
    intro ps
    induction ps with
    | nil => intro us l _ _ _; exact ⟨(fun n h => by cases h), (by cases us <;> rfl)⟩
    | cons p ps ih =>
      intro us l nd hl hn
      cases us with
      | nil => cases hl
      | cons u us =>
        obtain ⟨nd1, nd2⟩ := List.nodup_cons.mp nd
        have look_app : ∀ (l : List (Str × Value)) (r : List (Str × Value)) (n : Str), (l ++ r).lookup n = (l.lookup n).or (r.lookup n) := fun l r n => by
          induction l with
          | nil => simp
          | cons a l ih => 
            obtain ⟨a1, a2⟩ := a
            simp only [List.cons_append, List.lookup_cons]
            split <;> simp [ih]
        have h1 : ((l ++ (p, u) :: ps.zip us).lookup p) = some u := by
          rw [look_app, hn p (List.mem_cons_self ..)]
          simp [List.lookup_cons]
        have hn' : ∀ q ∈ ps, (l ++ [(p, u)]).lookup q = none := fun q hq => by
          rw [look_app, hn q (List.mem_cons_of_mem _ hq)]
          have : q ≠ p := fun e => nd1 (e ▸ hq)
          have e : (q == p) = false := beq_eq_false_iff_ne.mpr this
          simp [List.lookup_cons, e]
        obtain ⟨i1, i2⟩ := ih us (l ++ [(p, u)]) nd2 (by simpa using hl) hn'
        have e : l ++ [(p, u)] ++ ps.zip us = l ++ (p, u) :: ps.zip us := by simp
        rw [e] at i1 i2
        refine ⟨fun n hq => ?_, ?_⟩
        · rw [List.zip_cons_cons]
          rcases List.mem_cons.mp hq with rfl | hq
          · rw [h1]; rfl
          · exact i1 n hq
        · rw [List.zip_cons_cons, List.filterMap_cons, h1]
          simp only [Option.map_some]
          rw [i2]
  intro ps us nd hl
  obtain ⟨h1, h2⟩ := key ps us [] nd hl (fun p _ => rfl)
  refine ⟨List.filter_eq_nil_iff.mpr fun n hn => ?_, h2⟩
  have := h1 n hn
  rw [List.nil_append] at this
  rw [this]; simp
def plainArgs (p : Arguments) : Option (List Str) := match p with
  | ⟨[], args, none, [], _, none, _⟩ => some (args.map (·.arg))
  | _ => none
theorem bind_plain {x qual : Str} {p : Arguments} {ps : List Str} {body : List Stmt} {scope : Scope} {kV doc pm : Value} {an : Option Addr} {cdv ct : Value} {us : List Value} (h : plainArgs p = some ps) (nd : ps.Nodup) (hl : us.length = ps.length) :
    bindArgs (PySem.W.fnOf x qual p body scope .none kV doc pm an cdv ct) ⟨us, []⟩ = pure (ps.zip us) := by
  unfold plainArgs at h
  split at h
  · rename_i args kd df
    cases h
    obtain ⟨h1, h2⟩ := zip_look nd hl
    unfold bindArgs PySem.W.fnOf
    simp only [List.forIn_nil, List.map_nil, List.nil_append, List.append_nil, pure_bind]
    have hs : seqItems? Value.none = pure none := rfl
    rw [hs, pure_bind]
    rw [if_neg (by simp [hl])]
    simp only [Option.getD_none, List.drop_nil, List.length_nil, Nat.sub_zero, List.take_length, h1, List.isEmpty_nil, Bool.not_true, List.drop_length, List.zip_nil_left, List.zip_nil_right, List.forIn_nil, pure_bind, Bool.false_eq_true, if_false, h2]
  · cases h
/-! ### a def's text -/
def keepB (F : Fn) (i : Nat) : Bool := Nat.blt i F.np && !F.reb.contains i
def nodupS : List Str → Bool
  | [] => true
  | x :: r => !r.contains x && nodupS r
theorem nodupS_ok : ∀ {l : List Str}, nodupS l = true → l.Nodup
  | [], _ => List.nodup_nil
  | x :: r, h => by
    obtain ⟨h1, h2⟩ := and_eq h
    refine List.nodup_cons.mpr ⟨fun m => ?_, nodupS_ok h2⟩
    have : r.contains x = true := by simpa using m
    rw [this] at h1; cases h1
def isFree : NameKind → Bool
  | .free => true
  | _ => false
def chkF (G : Sx) (L : Option (Str × List (Str × Str))) (F : Fn) (params : Arguments) (body : List Stmt) (scope : Scope) : Bool :=
  decide (plainArgs params = some (F.names.take F.np)) && nodupS F.names && (match scope.kind with | .function => true | _ => false) && !scope.isCoroutine && !scope.isGenerator && Nat.ble F.np F.names.length &&
    ((F.names.take F.np).all fun x => locB scope x) && (scope.names.all fun y => !isFree y.2) && chkSs ⟨G.T, G.GT, G.DT, G.CT, F.names, L⟩ (keepB F) F.body scope body
structure Bas (G : Sx) (w : World) (K : PySem.W.Frag) (mg : Str → Option Value) (Tl : List (Addr × Str)) (Cv : Str → Value) (cs : List (Addr × Addr)) : Prop where
  defs : ∀ f Fd, G.T.lookup f = some Fd → ∃ a fd params body scope L, FunD K f f params body scope [] [] a fd ∧ mg f = some (.ref a) ∧ chkF G L Fd params body scope = true ∧ ∀ f' tbl, L = some (f', tbl) → SaidK K mg Cv f' tbl ∧ ∃ c P, fd.code = .ref c ∧ (c, P) ∈ cs ∧ (P, (f ++ ".<locals>.") ++ "<lambda>") ∈ Tl ∧ ∀ p ∈ Tl, p.1 = P → p.2 = (f ++ ".<locals>.") ++ "<lambda>"
  cst : ∀ x d, G.GT.lookup x = some d → ∃ u, mg x = some u ∧ cstR d u
  dct : ∀ x kvs, G.DT.lookup x = some kvs → ∃ a es m, mg x = some (.ref a) ∧ KDict K w a es m ∧ ∀ z : Str, (∀ d, lookA kvs (.inr z) = some d → ∃ u, PySem.W.nsIn K a z = some (some u) ∧ cstR d u) ∧ (lookA kvs (.inr z) = none → PySem.W.nsIn K a z = some none)
  blt : ∀ x ∈ bltNames, mg x = none
  exc : ∀ x ∈ G.CT, ∃ C : Addr, ∃ bmB : List Value, ∃ B newId initId : String, ExcBaseFacts B newId initId bmB ∧ PySem.W.excIn K C bmB newId = true ∧ mg x = some (.ref C) ∧ PySem.W.keepIn K (.ref C) = true ∧ PySem.W.subIn K (.ref C) (.type "BaseException") = some true ∧ PySem.W.typeIn K (.ref C) = some (.type "type") ∧ Cv x = .ref C
/-! ### the frames of a call -/
theorem getS_app {as : List Slot} {m : Nat} (i : Nat) : getS (as ++ List.replicate m .emp) i = getS as i := by
  unfold getS
  rw [List.getD_eq_getElem?_getD, List.getD_eq_getElem?_getD, List.getElem?_append]
  by_cases h : i < as.length
  · rw [if_pos h]
  · rw [if_neg h, List.getElem?_eq_none (l := as) (by omega), List.getElem?_replicate]
    split <;> rfl
section
variable {K : PySem.W.Frag} {Tl : List (Addr × Str)} {Cv : Str → Value} {Z F : Hp} {as δ : Sts} {vs : List V} {H H' : Hp} {ow : Nat → List Addr} {N : List Str}
theorem start_at {i : Nat} (h : i < vs.length) : (L2.start N vs)[i]? = (vs.map some)[i]? := by
  unfold L2.start
  rw [List.getElem?_append_left (by simpa using h)]
theorem start_len (h : vs.length ≤ N.length) : (L2.start N vs).length = N.length := by
  unfold L2.start
  simp; omega
theorem st_start (st : StR K Tl Z F as (vs.map some) H ow) (hl : vs.length ≤ N.length) : StR K Tl Z F (as ++ List.replicate (N.length - as.length) .emp) (L2.start N vs) H ow := by
  have hln : as.length = vs.length := by simpa using st.ln
  refine ⟨st.z, st.f, fun i hi => ?_, fun i hi => ?_, st.dj, st.fr, ?_, st.tb, st.nz, st.nf⟩
  · rw [getS_app] at hi ⊢
    obtain ⟨v, ev, h⟩ := st.sl i hi
    refine ⟨v, ?_, h⟩
    rw [start_at (by rw [← hln]; exact slot_ne hi)]
    exact ev
  · rw [getS_app] at hi
    exact st.em i hi
  · rw [start_len hl]
    simp; omega
theorem back_get {Fd : Fn} {i : Nat} : getS (backOf Fd as δ) i = if i < Fd.np then (if Fd.reb.contains i then getS as i else getS δ i) else .emp := by
  unfold backOf
  show ((List.range Fd.np).map fun i => if Fd.reb.contains i then getS as i else getS δ i).getD i .emp = _
  rw [List.getD_eq_getElem?_getD, List.getElem?_map]
  by_cases h : i < Fd.np
  · rw [List.getElem?_range h, if_pos h]; rfl
  · rw [List.getElem?_eq_none (by simpa using h), if_neg h]; rfl
/-- the parameters behind a def -/
theorem st_back {Z' F' : Hp} {δ' : Sts} {σ' : L2.St} {ow' : Nat → List Addr} {Fd : Fn} (st : StR K Tl Z F as (vs.map some) H ow) (hn : as.length = Fd.np) (hl : Fd.np ≤ N.length) (hp : ∀ i ∈ Fd.reb, plainArg (as.getD i .emp) = true) (s : Same Z Z') (kp : Kp (keepB Fd) (L2.start N vs) σ') (st' : StR K Tl Z' F' δ' σ' H' ow') :
    StR K Tl Z' F' (backOf Fd as δ') (vs.map some) H' (fun i => if keepB Fd i = true then ow' i else []) := by
  have hln : as.length = vs.length := by simpa using st.ln
  have kb : ∀ i, keepB Fd i = true ↔ i < Fd.np ∧ Fd.reb.contains i = false := fun i => by
    unfold keepB
    rw [Bool.and_eq_true, Nat.blt_eq, Bool.not_eq_true']
  refine ⟨st'.z, st'.f, fun i hi => ?_, fun i hi => ?_, fun i j a hi hj => ?_, fun i a hi => ?_, ?_, st'.tb, st'.nz, st'.nf⟩
  · rw [back_get] at hi ⊢
    by_cases h : i < Fd.np
    · rw [if_pos h] at hi ⊢
      cases hr : Fd.reb.contains i with
      | true =>
        simp only [hr, if_true] at hi ⊢
        obtain ⟨v, ev, hs⟩ := st.sl i hi
        have hpl := hp i (by simpa using hr)
        have hpl : plainArg (getS as i) = true := hpl
        refine ⟨v, ev, ?_⟩
        have hk : ¬ keepB Fd i = true := fun z => by rw [((kb i).mp z).2] at hr; cases hr
        rw [if_neg hk]
        revert hs hpl
        cases getS as i with
        | dat d => exact fun hs _ => ⟨hs.1.mono s, rfl⟩
        | _ => exact fun _ h => by cases h
      | false =>
        simp only [hr, Bool.false_eq_true, if_false] at hi ⊢
        obtain ⟨v, ev, hs⟩ := st'.sl i hi
        have hk : keepB Fd i = true := (kb i).mpr ⟨h, hr⟩
        rw [if_pos hk]
        refine ⟨v, ?_, hs⟩
        rw [← ev, kp.2 i hk, start_at (by omega)]
    · rw [if_neg h] at hi; exact absurd rfl hi
  · rw [back_get] at hi
    by_cases hk : keepB Fd i = true
    · rw [if_pos hk]
      obtain ⟨h1, h2⟩ := (kb i).mp hk
      rw [if_pos h1, h2] at hi
      exact st'.em i hi
    · rw [if_neg hk]
  · by_cases c : keepB Fd i = true
    · by_cases d : keepB Fd j = true
      · rw [if_pos c] at hi; rw [if_pos d] at hj; exact st'.dj i j a hi hj
      · rw [if_neg d] at hj; cases hj
    · rw [if_neg c] at hi; cases hi
  · by_cases c : keepB Fd i = true
    · rw [if_pos c] at hi; exact st'.fr i a hi
    · rw [if_neg c] at hi; cases hi
  · unfold backOf
    simp; omega
end
section
variable {G : Sx} {P : Program} {w : World} {K : PySem.W.Frag} {mg : Str → Option Value} {base : Heap} {Tl : List (Addr × Str)} {Cv : Str → Value} {n : Nat}
theorem fn_zero {a : Addr} {fd : FuncData} {ps : List Str} {f : Str} : FnOk P w K mg base (L2.CX P w) (3 * 0) a fd ps (SpF K Tl Cv G.T 0 f) :=
  ⟨fun vs H Q E ⟨Z, F, as, ow, st, h⟩ => h.elim, fun A outer s H args us vs Q E hr he hb hv ⟨Z, F, as, ow, st, h⟩ => h.elim⟩
theorem fn_succ (g : Glo G P w K mg base Tl Cv n) {L : Option (Str × List (Str × Str))} {f : Str} {Fd : Fn} {a : Addr} {fd : FuncData} {params : Arguments} {body : List Stmt} {scope : Scope} (hf : G.T.lookup f = some Fd) (F : FunD K f f params body scope [] [] a fd) (hc : chkF G L Fd params body scope = true)
    (hL : ∀ f' tbl, L = some (f', tbl) → SaidK K mg Cv f' tbl ∧ ∃ c P, fd.code = .ref c ∧ LamX.TabB base mg c P ∧ (P, (f ++ ".<locals>.") ++ "<lambda>") ∈ Tl ∧ ∀ p ∈ Tl, p.1 = P → p.2 = (f ++ ".<locals>.") ++ "<lambda>") :
    FnOk P w K mg base (L2.CX P w) (3 * (n + 1)) a fd (Fd.names.take Fd.np) (SpF K Tl Cv G.T (n + 1) f) := by
  unfold chkF at hc
  obtain ⟨hc, c9⟩ := and_eq hc
  obtain ⟨hc, c8⟩ := and_eq hc
  obtain ⟨hc, c7⟩ := and_eq hc
  obtain ⟨hc, c6⟩ := and_eq hc
  obtain ⟨hc, c5⟩ := and_eq hc
  obtain ⟨hc, c4⟩ := and_eq hc
  obtain ⟨hc, c3⟩ := and_eq hc
  obtain ⟨c1, c2⟩ := and_eq hc
  have c6 : Fd.np ≤ Fd.names.length := Nat.le_of_ble_eq_true c6
  have hkind : scope.kind = .function := by
    split at c3
    · assumption
    · cases c3
  have sp_run : ∀ vs H Q E, SpF K Tl Cv G.T (n + 1) f vs H Q E → ∃ Z F as ow, StR K Tl Z F as (vs.map some) H ow ∧ as.length = Fd.np ∧ (∀ i ∈ Fd.reb, plainArg (as.getD i .emp) = true) ∧ (match evSs (evF G.T n) Fd.body (as ++ List.replicate (Fd.names.length - as.length) .emp) with
      | .next δ => ∀ v H', PostE K Tl Z F (backOf Fd as δ) (vs.map some) H (.dat .none) false v H' → Q v H'
      | .ret r δ => (match outR Fd as r δ with
        | .ret r back => ∀ v H', PostE K Tl Z F back (vs.map some) H r false v H' → Q v H'
        | .exc c back => ∀ H', PostS K Tl Z F back (vs.map some) H' → E (Cv c) none H'
        | .stuck => False)
      | .exc c δ => ∀ H', PostS K Tl Z F (backOf Fd as δ) (vs.map some) H' → E (Cv c) none H'
      | _ => False) := fun vs H Q E ⟨Z, F, as, ow, st, h⟩ => by
    have e : evF G.T (n + 1) f as = runFn (evF G.T n) Fd as := by
      show (match lookF G.T f with
        | some F => runFn (evF G.T n) F as
        | none => .stuck) = _
      unfold lookF
      rw [hf]
    rw [e] at h
    unfold runFn at h
    by_cases hcond : as.length = Fd.np ∧ (∀ i ∈ Fd.reb, plainArg (as.getD i .emp) = true)
    · rw [if_pos hcond] at h
      refine ⟨Z, F, as, ow, st, hcond.1, hcond.2, ?_⟩
      revert h
      cases evSs (evF G.T n) Fd.body (as ++ List.replicate (Fd.names.length - as.length) .emp) <;> exact fun h => h
    · rw [if_neg hcond] at h
      exact h.elim
  obtain ⟨oc, od, dV, kV, doc, pm, an, cdv, ct, osl, rfl, lk, hcd, _, _⟩ := F.ex
  refine fn_of (k := 3 * n + 2) (N := Fd.names) (ps := Fd.names.take Fd.np) lk hcd ⟨hkind, not_eq c4, not_eq c5, nodupS_ok c2, by rw [List.length_take, Nat.min_eq_left c6], fun x hx => ?_, fun y hy => ?_⟩ (fun vs H Q E h => ?_) (fun A outer s H vs Q E hr hsp => ?_)
  · have := List.all_eq_true.mp c7 x hx
    unfold locB at this
    split at this
    · exact .inl (by assumption)
    · exact .inr (by assumption)
    · cases this
  · have := not_eq (List.all_eq_true.mp c8 y hy)
    intro e
    rw [e] at this
    cases this
  · obtain ⟨Z, F, as, ow, st, h1, _⟩ := sp_run vs H Q E h
    have := st.ln
    rw [List.length_map] at this
    rw [List.length_take, Nat.min_eq_left c6]
    omega
  · obtain ⟨Z, F, as, ow, st, h1, h2, h3⟩ := sp_run vs H Q E hsp
    have hln : as.length = vs.length := by simpa using st.ln
    have hle : 3 * n ≤ 3 * n + 2 := by omega
    have room0 : Room (3 * n) (A.deeper (envOfC f scope s.heap.objs.size a cdv)) := hr.mono hle
    have lam0 : ∀ f' tbl, L = some (f', tbl) → LamK Tl Cv n (cxOf (L2.CX P w) P w K mg base Fd.names f scope a cdv A outer s H E) f' tbl := fun f' tbl e => by
      obtain ⟨h1, c, P', h2, h3, h4, h5⟩ := hL f' tbl e
      have r1 : Room (3 * n + 2) (cxOf (L2.CX P w) P w K mg base Fd.names f scope a cdv A outer s H E).A := hr
      have r2 : cdv = .ref c := h2
      have r3 : LamX.TabB (cxOf (L2.CX P w) P w K mg base Fd.names f scope a cdv A outer s H E).base (cxOf (L2.CX P w) P w K mg base Fd.names f scope a cdv A outer s H E).mg c P' := h3
      have r4 : (cxOf (L2.CX P w) P w K mg base Fd.names f scope a cdv A outer s H E).env.code = .ref c := r2
      have r5 : (cxOf (L2.CX P w) P w K mg base Fd.names f scope a cdv A outer s H E).env.qual = f ++ ".<locals>." := rfl
      refine { room := r1, code := ⟨c, P', r3, r4, ?_, ?_⟩, said := h1 }
      · rw [r5]; exact h4
      · rw [r5]; exact h5
    have sok : Sok ⟨G.T, G.GT, G.DT, G.CT, Fd.names, L⟩ Tl Cv n scope (fun cls d _ H => E cls d H) (cxOf (L2.CX P w) P w K mg base Fd.names f scope a cdv A outer s H E) :=
      { N := rfl, sc := rfl, nd := nodupS_ok c2, calm := rfl, tk := takes_of rfl rfl rfl rfl, room := room0, lam := lam0, glo := ⟨g.fns, g.cst, g.dct, g.blt, g.exc, g.fnp⟩, fnT := fun _ => rfl, pown := passes_of rfl, kind := hkind }
    refine ⟨_, sSs sok Fd.body c9, Z, F, _, ow, st_start st (by omega), ?_⟩
    have bk : ∀ {δ' : Sts} {σ' : L2.St} {H' : Hp}, Kp (keepB Fd) (L2.start Fd.names vs) σ' → PostS K Tl Z F δ' σ' H' → PostS K Tl Z F (backOf Fd as δ') (vs.map some) H' := fun {δ' σ' H'} kp ⟨Z1, ow1, g1, st1⟩ => ⟨Z1, _, g1, st_back st h1 c6 h2 g1.s kp st1⟩
    revert h3
    cases evSs (evF G.T n) Fd.body (as ++ List.replicate (Fd.names.length - as.length) .emp) with
    | next δ' =>
      intro h3 σ' H' kp hp
      obtain ⟨Z1, ow1, g1, st1⟩ := bk kp hp
      exact h3 .non H' ⟨Z1, F, ow1, g1, Same.refl _, st1, .non, fun e => by cases e⟩
    | exc c δ' => exact fun h3 σ' H' kp hp => h3 H' (bk kp hp)
    | ret r δ' =>
      intro h3 σ' v H' kp ⟨Z1, F1, ow1, g1, f1, st1, r1, _⟩
      have st2 := st_back st h1 c6 h2 g1.s kp st1
      cases r with
      | dat d => exact h3 v H' ⟨Z1, F1, _, g1, f1, st2, r1, fun e => by cases e⟩
      | own sl => exact h3 v H' ⟨Z1, F1, _, g1, f1, st2, r1, fun e => by cases e⟩
      | inn ds => exact (show False from h3).elim
      | loc i =>
        have h3 : (match (if Nat.ble Fd.np i && hasS δ' i then FRes.ret (.own (getS δ' i)) (backOf Fd as δ') else .stuck) with
          | .ret r back => ∀ v H', PostE K Tl Z F back (vs.map some) H r false v H' → Q v H'
          | .exc c back => ∀ H', PostS K Tl Z F back (vs.map some) H' → E (Cv c) none H'
          | .stuck => False) := h3
        by_cases hc : (Nat.ble Fd.np i && hasS δ' i) = true
        · rw [if_pos hc] at h3
          obtain ⟨hc1, hc2⟩ := and_eq hc
          have hc1 := Nat.le_of_ble_eq_true hc1
          obtain ⟨u, eu, hs⟩ := st1.sl i (hasS_ne hc2)
          have r1' : σ'[i]? = some (some v) := r1
          rw [r1'] at eu
          cases eu
          have fz : ∀ a ∈ ow1 i, Z1 a = none ∧ F1 a = none := fun a m => st1.fr i a m
          -- what is given back stands in the frame
          have s1 : Same F1 (mixH F1 H' (ow1 i)) := fun a o e => by
            rw [mix_out (fun m => by rw [(fz a m).2] at e; cases e)]; exact e
          refine h3 v H' ⟨Z1, mixH F1 H' (ow1 i), _, g1, f1.trans s1, st2.addF s1 (fun a o e => ?_) (fun j a m => ?_) (fun a ps e => ?_), ⟨ow1 i, hs.mono (Same.refl _) fun a m o e => by rw [mix_in m]; exact e, fun a m => ⟨(fz a m).1, f1.free (fz a m).2⟩⟩, fun e => by cases e⟩
          · by_cases m : a ∈ ow1 i
            · rw [mix_in m] at e; exact e
            · rw [mix_out m] at e; exact st1.f _ _ e
          · by_cases c : keepB Fd j = true
            · simp only [c, if_true] at m
              have hj : j < Fd.np := by
                unfold keepB at c
                rw [Bool.and_eq_true, Nat.blt_eq] at c
                exact c.1
              rw [mix_out (fun m' => by
                have := st1.dj j i a m m'
                omega)]
              exact (st1.fr j a m).2
            · simp only [c] at m; cases m
          · by_cases m : a ∈ ow1 i
            · rw [mix_in m] at e
              obtain ⟨o, eo, ho⟩ := st1.own m
              rw [eo] at e
              exact isOwn_ne ho ps (Option.some.inj e)
            · rw [mix_out m] at e; exact st1.nf a ps e
        · rw [if_neg hc] at h3
          exact h3.elim
    | brk δ' => exact fun h3 => h3.elim
    | cnt δ' => exact fun h3 => h3.elim
    | stuck => exact fun h3 => h3.elim
theorem bind_of {L : Option (Str × List (Str × Str))} {f : Str} {Fd : Fn} {a : Addr} {fd : FuncData} {params : Arguments} {body : List Stmt} {scope : Scope} (F : FunD K f f params body scope [] [] a fd) (hc : chkF G L Fd params body scope = true) : Binds K fd (Fd.names.take Fd.np) [] ∧ Fd.np ≤ Fd.names.length := by
  unfold chkF at hc
  obtain ⟨hc, c9⟩ := and_eq hc
  obtain ⟨hc, c8⟩ := and_eq hc
  obtain ⟨hc, c7⟩ := and_eq hc
  obtain ⟨hc, c6⟩ := and_eq hc
  obtain ⟨hc, c5⟩ := and_eq hc
  obtain ⟨hc, c4⟩ := and_eq hc
  obtain ⟨hc, c3⟩ := and_eq hc
  obtain ⟨c1, c2⟩ := and_eq hc
  have nd : (Fd.names.take Fd.np).Nodup := (nodupS_ok c2).sublist (List.take_sublist _ _)
  exact ⟨F.bindsN fun kV doc pm an cdv ct us hl => bind_plain (of_decide_eq_true c1) nd hl, Nat.le_of_ble_eq_true c6⟩
/-- every def keeps its promise, at every depth -/
theorem glo_all {cs : List (Addr × Addr)} (b : Bas G w K mg Tl Cv cs) (hT : ∀ p ∈ cs, LamX.TabB base mg p.1 p.2) : ∀ n, Glo G P w K mg base Tl Cv n
  | 0 => ⟨fun f Fd h => by
      obtain ⟨a, fd, params, body, scope, L, F, hm, hc, _⟩ := b.defs f Fd h
      exact ⟨a, fd, fn_zero, hm, F.kp, (bind_of F hc).1⟩, b.cst, b.dct, b.blt, b.exc, fun f Fd h => by
      obtain ⟨a, fd, params, body, scope, L, F, hm, hc, _⟩ := b.defs f Fd h
      exact (bind_of F hc).2⟩
  | n + 1 => ⟨fun f Fd h => by
      obtain ⟨a, fd, params, body, scope, L, F, hm, hc, hL⟩ := b.defs f Fd h
      refine ⟨a, fd, fn_succ (glo_all b hT n) h F hc (fun f' tbl e => ?_), hm, F.kp, (bind_of F hc).1⟩
      obtain ⟨h1, c, P', h2, h3, h4⟩ := hL f' tbl e
      exact ⟨h1, c, P', h2, hT _ h3, h4⟩, b.cst, b.dct, b.blt, b.exc, fun f Fd h => by
      obtain ⟨a, fd, params, body, scope, L, F, hm, hc, hL⟩ := b.defs f Fd h
      exact (bind_of F hc).2⟩
end
end Ev

set_option Elab.async false
set_option linter.all false
set_option maxRecDepth 100000
set_option maxHeartbeats 400000
/-! From a head's facts to the evaluator's promise. -/
namespace Ev
open PySem PySem.Spec PyProof.Rows L2
/-! ### tables of the top -/
def cstVB : D → Value → Bool
  | .int i, .int j _ => decide (i = j)
  | .str x, .str y _ => decide (x = y)
  | _, _ => false
theorem cstVB_ok {d : D} {u : Value} (h : cstVB d u = true) : cstR d u := by
  unfold cstVB at h
  split at h
  · cases of_decide_eq_true h; exact ⟨_, rfl⟩
  · cases of_decide_eq_true h; exact ⟨_, rfl⟩
  · cases h
def keyB (v : Value) (k : Str) : Bool := match v with
  | .str x _ => decide (x = k)
  | _ => false
def entL : List DictEntry → List (L2.Key × D) → Bool
  | [], [] => true
  | e :: es, (.inr k, d) :: kvs => keyB e.key k && cstVB d e.val && entL es kvs
  | _, _ => false
theorem isStr_str {x z : Str} {t : Tok} : (Value.str x t).isStr z = true ↔ x = z := by
  rw [PySem.W.isStr_of]
  show (x == z) = true ↔ _
  exact beq_iff_eq
theorem entL_ok : ∀ {es : List DictEntry} {kvs : List (L2.Key × D)} (z : Str), entL es kvs = true → (∀ d, lookA kvs (.inr z) = some d → ∃ e, es.find? (·.key.isStr z) = some e ∧ cstR d e.val) ∧ (lookA kvs (.inr z) = none → es.find? (·.key.isStr z) = none ∧ (es.any (·.refKey)) = false)
  | [], [], z, _ => ⟨fun d h => (by cases h), fun _ => ⟨rfl, rfl⟩⟩
  | e :: es, (.inr k, d) :: kvs, z, h => by
    unfold entL at h
    obtain ⟨h, h3⟩ := and_eq h
    obtain ⟨h1, h2⟩ := and_eq h
    obtain ⟨i1, i2⟩ := entL_ok z h3
    have hk : ∃ t, e.key = .str k t := by
      unfold keyB at h1
      split at h1
      · rename_i x t hk
        cases of_decide_eq_true h1
        exact ⟨t, hk⟩
      · cases h1
    obtain ⟨t, hk⟩ := hk
    by_cases c : k = z
    · subst c
      have hs : e.key.isStr k = true := by rw [hk]; exact isStr_str.mpr rfl
      refine ⟨fun d' h' => ?_, fun h' => ?_⟩
      · simp only [lookA, if_pos] at h'
        cases h'
        exact ⟨e, by rw [List.find?_cons, hs], cstVB_ok h2⟩
      · simp only [lookA, if_pos] at h'
        cases h'
    · have hs : e.key.isStr z = false := by
        cases q : e.key.isStr z with
        | false => rfl
        | true => rw [hk] at q; exact absurd (isStr_str.mp q) c
      have hne : ¬ ((Sum.inr k : L2.Key) = Sum.inr z) := fun e => c (by injection e)
      refine ⟨fun d' h' => ?_, fun h' => ?_⟩
      · simp only [lookA, if_neg hne] at h'
        rw [List.find?_cons, hs]
        exact i1 d' h'
      · simp only [lookA, if_neg hne] at h'
        rw [List.find?_cons, hs, List.any_cons]
        obtain ⟨a1, a2⟩ := i2 h'
        refine ⟨a1, ?_⟩
        rw [a2, Bool.or_false]
        unfold DictEntry.refKey
        rw [hk]
  | [], _ :: _, _, h => by cases h
  | e :: es, [], _, h => by cases h
  | e :: es, (.inl _, _) :: _, _, h => by cases h
def dctB (K : PySem.W.Frag) (a : Addr) (kvs : List (L2.Key × D)) : Bool := match K.lookup a with
  | some ⟨_, _, .dict es _, _⟩ => entL es.toList kvs
  | _ => false
theorem dctB_ok {K : PySem.W.Frag} {a : Addr} {kvs : List (L2.Key × D)} (h : dctB K a kvs = true) (z : Str) : (∀ d, lookA kvs (.inr z) = some d → ∃ u, PySem.W.nsIn K a z = some (some u) ∧ cstR d u) ∧ (lookA kvs (.inr z) = none → PySem.W.nsIn K a z = some none) := by
  unfold dctB at h
  split at h
  · rename_i oc od es n sl e
    obtain ⟨h1, h2⟩ := entL_ok z h
    refine ⟨fun d hd => ?_, fun hn => ?_⟩
    · obtain ⟨en, e1, e2⟩ := h1 d hd
      refine ⟨en.val, ?_, e2⟩
      unfold PySem.W.nsIn
      rw [e]
      dsimp only
      rw [e1]
    · obtain ⟨e1, e2⟩ := h2 hn
      unfold PySem.W.nsIn
      rw [e]
      dsimp only
      rw [e1, e2]
      rfl
  · cases h
/-! ### what the head is to tell -/
def cstFa : Str × D → Option He.Fa
  | (x, .int i) => some (.int x i)
  | (x, .str z) => some (.str x z)
  | _ => none
def faOf (G : Sx) (sd : List Str) : List He.Fa := G.T.map (fun p => .glo p.1) ++ sd.map .glo ++ bltNames.map .free ++ G.GT.filterMap cstFa ++ G.CT.map .exc ++ G.CT.map .glo ++ G.DT.map fun p => .glo p.1
def tsOf (G : Sx) : List He.Tab := G.DT.map fun p => ((fun K => He.ga K p.1), p.2.map fun q => match q.1 with
  | .inr k => k
  | .inl _ => Str.empty)
def exOf (G : Sx) (more : PySem.W.Frag → Bool) (K : PySem.W.Frag) : Bool := (G.DT.all fun p => dctB K (He.ga K p.1) p.2) && more K
def dflt (d : He.DefD) : Bool := d.dfl.isEmpty && d.kwd.isEmpty
/-- each def of the table stands in the head's list, and its text is the table's; lam: the defs that hand lambdas on -/
def tblB (G : Sx) (lam : List Str) : List (Str × Fn) → List He.DefD → Bool
  | [], _ => true
  | (f, F) :: r, d :: ds => decide (d.at_ = (f, none)) && decide (d.name = f) && decide (d.qual = f) && dflt d && chkF G (if lam.contains f then G.L else none) F d.params d.body d.scope && tblB G lam r ds
  | _, [] => false
theorem tblB_mem {G : Sx} {lam : List Str} : ∀ {T : List (Str × Fn)} {ds : List He.DefD} {f : Str} {F : Fn}, tblB G lam T ds = true → T.lookup f = some F → ∃ d ∈ ds, d.at_ = (f, none) ∧ d.name = f ∧ d.qual = f ∧ d.dfl = [] ∧ d.kwd = [] ∧ chkF G (if lam.contains f then G.L else none) F d.params d.body d.scope = true
  | [], _, f, F, _, h => by cases h
  | (g, F') :: r, d :: ds, f, F, h, hl => by
    unfold tblB at h
    obtain ⟨h, h6⟩ := and_eq h
    obtain ⟨h, h5⟩ := and_eq h
    obtain ⟨h, h4⟩ := and_eq h
    obtain ⟨h, h3⟩ := and_eq h
    obtain ⟨h1, h2⟩ := and_eq h
    rw [List.lookup_cons] at hl
    cases q : f == g with
    | true =>
      rw [q] at hl
      cases hl
      cases eq_of_beq q
      unfold dflt at h4
      obtain ⟨h7, h8⟩ := and_eq h4
      exact ⟨d, List.mem_cons_self, of_decide_eq_true h1, of_decide_eq_true h2, of_decide_eq_true h3, List.isEmpty_iff.mp h7, List.isEmpty_iff.mp h8, h5⟩
    | false =>
      rw [q] at hl
      obtain ⟨d', m, z⟩ := tblB_mem h6 hl
      exact ⟨d', List.mem_cons_of_mem _ m, z⟩
  | _ :: _, [], _, _, h, _ => by cases h
def cvOf (K : PySem.W.Frag) (x : Str) : Value := .ref (He.ga K x)
def csOf (K : PySem.W.Frag) (lam : List Str) : List (Addr × Addr) := lam.map fun f => He.cT K (f, none)
def tlOf (K : PySem.W.Frag) (lam : List Str) : List (Addr × Str) := lam.map fun f => ((He.cT K (f, none)).2, (f ++ ".<locals>.") ++ "<lambda>")
section
variable {G : Sx} {w : World} {K : PySem.W.Frag} {h : Heap} {mg : Str → Option Value} {sd lam : List Str} {fn : List He.DefD} {more : PySem.W.Frag → Bool}
theorem bas_of (hK : K.In h) (hns : h.Ns mainGlobals mg) (c : He.SaysX (faOf G sd) fn (tsOf G) (lam.map fun f => (f, none)) (exOf G more) w h K) (ht : tblB G lam G.T fn = true) (hgt : (G.GT.all fun p => (cstFa p).isSome) = true)
    (hu : ∀ f ∈ lam, ∀ g ∈ lam, (He.cT K (f, none)).2 = (He.cT K (g, none)).2 → f = g) (hs : ∀ f tbl, G.L = some (f, tbl) → SaidK K mg (cvOf K) f tbl) : Bas G w K mg (tlOf K lam) (cvOf K) (csOf K lam) where
  defs := fun f Fd hl => by
    obtain ⟨d, md, e1, e2, e3, e4, e5, e6⟩ := tblB_mem ht hl
    obtain ⟨fd, F⟩ := He.SaysD.defs (He.SaysT.d c.t) md
    have e7 : d.dvs K = [] := by unfold He.DefD.dvs; rw [e4]; rfl
    have e8 : d.kws K = [] := by unfold He.DefD.kws; rw [e5]; rfl
    have e9 : He.fAd K d.at_ = He.ga K f := by rw [e1]; rfl
    rw [e2, e3, e7, e8, e9] at F
    have mem : He.Fa.glo f ∈ faOf G sd := by
      unfold faOf
      simp only [List.mem_append]
      refine .inl (.inl (.inl (.inl (.inl (.inl ?_)))))
      exact List.mem_map.mpr ⟨(f, Fd), PySem.mem_of_lookup hl, rfl⟩
    refine ⟨_, fd, d.params, d.body, d.scope, _, F, He.glo_ok hK hns (He.SaysD.facts (He.SaysT.d c.t) mem), e6, fun f' tbl e => ?_⟩
    by_cases hc : lam.contains f = true
    · rw [if_pos hc] at e
      have hm : f ∈ lam := by simpa using hc
      refine ⟨hs f' tbl e, (He.cT K (f, none)).1, (He.cT K (f, none)).2, ?_, List.mem_map.mpr ⟨f, hm, rfl⟩, List.mem_map.mpr ⟨f, hm, rfl⟩, fun p hp hpe => ?_⟩
      · obtain ⟨oc, od, dV, kV, doc, pm, an, cdv, ct, osl, rfl, lk, hcd, _, _⟩ := F.ex
        obtain ⟨cc, ec⟩ := He.codeIn_ref hcd
        have := He.codeOf_eq (K := K) (p := (f, none)) (c := cc) lk ec
        show cdv = .ref (He.codeOf K (f, none))
        rw [this]
        exact ec
      · obtain ⟨g, hg, eg⟩ := List.mem_map.mp hp
        subst eg
        have := hu g hg f hm hpe
        subst this
        rfl
    · rw [if_neg hc] at e
      cases e
  cst := fun x d hl => by
    have hm := PySem.mem_of_lookup hl
    have mem : ∀ fa, cstFa (x, d) = some fa → fa ∈ faOf G sd := fun fa e => by
      unfold faOf
      simp only [List.mem_append]
      exact .inl (.inl (.inl (.inr (List.mem_filterMap.mpr ⟨(x, d), hm, e⟩))))
    have hd := List.all_eq_true.mp hgt (x, d) hm
    cases d with
    | int i =>
      obtain ⟨t, e⟩ := He.int_ok hK hns (He.SaysD.facts (He.SaysT.d c.t) (mem _ rfl))
      exact ⟨_, e, t, rfl⟩
    | str z =>
      obtain ⟨t, e⟩ := He.str_ok hK hns (He.SaysD.facts (He.SaysT.d c.t) (mem _ rfl))
      exact ⟨_, e, t, rfl⟩
    | _ => cases hd
  dct := fun x kvs hl => by
    have hm := PySem.mem_of_lookup hl
    have mem : He.Fa.glo x ∈ faOf G sd := by
      unfold faOf
      simp only [List.mem_append]
      exact .inr (List.mem_map.mpr ⟨(x, kvs), hm, rfl⟩)
    obtain ⟨h1, h2⟩ := and_eq c.more
    obtain ⟨i, hi, ei⟩ := List.mem_iff_getElem.mp hm
    obtain ⟨es, n, kd⟩ := c.t.tab i (t := _) (by
      unfold tsOf
      rw [List.getElem?_map, List.getElem?_eq_getElem hi, ei]
      rfl)
    exact ⟨He.ga K x, es, n, He.glo_ok hK hns (He.SaysD.facts (He.SaysT.d c.t) mem), kd, dctB_ok (List.all_eq_true.mp h1 (x, kvs) hm)⟩
  blt := fun x hx => He.free_ok hK hns (He.SaysD.facts (He.SaysT.d c.t) (by
    unfold faOf
    simp only [List.mem_append]
    exact .inl (.inl (.inl (.inl (.inr (List.mem_map.mpr ⟨x, hx, rfl⟩)))))))
  exc := fun x hx => by
    have m1 : He.Fa.exc x ∈ faOf G sd := by
      unfold faOf
      simp only [List.mem_append]
      exact .inl (.inl (.inr (List.mem_map.mpr ⟨x, hx, rfl⟩)))
    have m2 : He.Fa.glo x ∈ faOf G sd := by
      unfold faOf
      simp only [List.mem_append]
      exact .inl (.inr (List.mem_map.mpr ⟨x, hx, rfl⟩))
    obtain ⟨h1, h2, h3, h4⟩ := He.exc_ok (He.SaysD.facts (He.SaysT.d c.t) m1)
    exact ⟨He.ga K x, _, _, _, _, PySem.F.excBase_ValueError, h1, He.glo_ok hK hns (He.SaysD.facts (He.SaysT.d c.t) m2), h2, h3, h4, rfl⟩
theorem chk_params {L : Option (Str × List (Str × Str))} {Fd : Fn} {params : Arguments} {body : List Stmt} {scope : Scope} (hc : chkF G L Fd params body scope = true) : plainArgs params = some (Fd.names.take Fd.np) ∧ True := by
  unfold chkF at hc
  obtain ⟨hc, c9⟩ := and_eq hc
  obtain ⟨hc, c8⟩ := and_eq hc
  obtain ⟨hc, c7⟩ := and_eq hc
  obtain ⟨hc, c6⟩ := and_eq hc
  obtain ⟨hc, c5⟩ := and_eq hc
  obtain ⟨hc, c4⟩ := and_eq hc
  obtain ⟨hc, c3⟩ := and_eq hc
  obtain ⟨c1, c2⟩ := and_eq hc
  exact ⟨of_decide_eq_true c1, trivial⟩
/-- a law whose evaluation is true at every script -/
theorem law_at {l : PySem.W.OpenLaw} {N n : Nat} {x : Str} {Fd : Fn} {fa : Addr} (hK : K.In h) (hns : h.Ns mainGlobals mg) (c : He.SaysX (faOf G sd) fn (tsOf G) (lam.map fun f => (f, none)) (exOf G more) w h K) (ht : tblB G lam G.T fn = true) (hgt : (G.GT.all fun p => (cstFa p).isSome) = true)
    (hu : ∀ f ∈ lam, ∀ g ∈ lam, (He.cT K (f, none)).2 = (He.cT K (g, none)).2 → f = g) (hs : ∀ f tbl, G.L = some (f, tbl) → SaidK K mg (cvOf K) f tbl)
    (hl : G.T.lookup ("law" : Str) = some Fd) (hp : Fd.names.take Fd.np = [x]) (hfa : mg "law" = some (.ref fa))
    (hE : ∀ ns : List Int, ns.length ≤ n → ∃ back, evF G.T N "law" [.scr ns] = .ret (.dat (.bool true)) back) : LamX.LawAtS l w K (L2.CX l.prog w) (3 * N) n x mg fa h := by
  have b := bas_of hK hns c ht hgt hu hs
  obtain ⟨a, fd, params, body, scope, L, F, hm, hc, hL⟩ := b.defs "law" Fd hl
  rw [hfa] at hm
  cases hm
  refine ⟨fd, csOf K lam, SpF K (tlOf K lam) (cvOf K) G.T N "law", fun p hp => ?_, fun p hp => ?_, fun p hp => ?_, fun s u => ?_, fun H a ns hln hbits hT hS => ?_, fun base hb hbn hTB => ?_⟩
  · obtain ⟨f, hf, e⟩ := List.mem_map.mp hp
    subst e
    exact c.empty (f, none) (List.mem_map.mpr ⟨f, hf, rfl⟩)
  · obtain ⟨f, hf, e⟩ := List.mem_map.mp hp
    subst e
    exact c.out (f, none) (List.mem_map.mpr ⟨f, hf, rfl⟩)
  · obtain ⟨f, hf, e⟩ := List.mem_map.mp hp
    subst e
    exact PySem.W.codeHd_of_K hK (c.hd (f, none) (List.mem_map.mpr ⟨f, hf, rfl⟩))
  · have hps := chk_params hc
    obtain ⟨oc, od, dV, kV, doc, pm, an, cdv, ct, osl, rfl, lk, hcd, hD, _⟩ := F.ex
    rcases hD with ⟨_, rfl⟩ | ⟨e, _⟩
    · rw [hp] at hps
      exact .of_eq (bind_plain hps.1 (by simp) rfl)
    · exact absurd rfl e
  · obtain ⟨back, e⟩ := hE ns hln
    let Z : Hp := fun b => if b = a then (match H b with
      | some (.tbl _) => none
      | o => o) else none
    have hZa : ∀ o, H a = some o → (∀ ps, o ≠ .tbl ps) → Z a = some o := fun o ho hn => by
      show (if a = a then _ else _) = _
      rw [if_pos rfl, ho]
      cases o <;> first | rfl | exact absurd rfl (hn _)
    have hZ : Same Z H := fun b o hb => by
      have hb : (if b = a then (match H b with
        | some (.tbl _) => none
        | o => o) else none) = some o := hb
      split at hb
      · split at hb
        · cases hb
        · exact hb
      · cases hb
    refine ⟨Z, fun _ => none, [.scr ns], fun _ => [], ⟨hZ, (fun a o e => by cases e), fun i hi => ?_, fun i _ => rfl, (fun i j a m => by cases m), (fun i a m => by cases m), rfl, fun p hp => ?_, fun b ps hb => ?_, (fun a ps e => by cases e)⟩, ?_⟩
    · cases i with
      | zero =>
        refine ⟨.ref a, rfl, a, rfl, ?_, rfl⟩
        rcases hS with q | q
        · refine .inl ?_
          rcases q with q | ⟨o, q⟩
          · exact .inl (hZa _ q fun ps z => by cases z)
          · exact .inr ⟨o, hZa _ q fun ps z => by cases z⟩
        · exact .inr q
      | succ i => exact absurd rfl hi
    · obtain ⟨f, hf, e⟩ := List.mem_map.mp hp
      subst e
      exact LamX.TabS.nil (hT _ (List.mem_map.mpr ⟨f, hf, rfl⟩))
    · have hb : (if b = a then (match H b with
        | some (.tbl _) => none
        | o => o) else none) = some (.tbl ps) := hb
      split at hb
      · split at hb
        · cases hb
        · rename_i hh
          exact hh ps hb
      · cases hb
    · rw [e]
      intro v H' ⟨Z1, F1, ow1, g1, f1, st1, r1, _⟩
      exact rp_bl r1
  · cases N with
    | zero =>
      obtain ⟨back, e⟩ := hE [] (Nat.zero_le _)
      cases e
    | succ N =>
      have := fn_succ (P := l.prog) (glo_all (P := l.prog) (Tl := tlOf K lam) b hTB N) hl F hc fun f' tbl e => by
        obtain ⟨h1, c', P', h2, h3, h4⟩ := hL f' tbl e
        exact ⟨h1, c', P', h2, hTB _ h3, h4⟩
      rw [hp] at this
      exact this
end
end Ev

set_option Elab.async false
set_option linter.all false
set_option maxRecDepth 100000
set_option maxHeartbeats 400000
/-! The def that tells what a lambda raised. -/
namespace Ev
open PySem PySem.Spec PyProof.Rows L2
def rCntB (K : PySem.W.Frag) : V → List V → Hp → VK → Prop := fun x xs H Q => ∃ (p : Addr) (bs : List Bool), x = .ref p ∧ xs = [.bl true] ∧ SqL K H p (bs.map V.bl) ∧ Q (.int (bs.countP id : Nat)) H
theorem flat_bls : ∀ bs : List Bool, (bs.map V.bl).all flatV = true
  | [] => rfl
  | b :: bs => by rw [List.map_cons, List.all_cons, flat_bls bs]; rfl
section
variable {X : Cx}
theorem mt_countB : MtR X "list.count" (rCntB X.K) := by
  intro pins s σ H x xs v us Q I rx rxs h
  obtain ⟨p, bs, rfl, rfl, hs, q⟩ := h
  cases rx
  cases rxs with
  | cons ry rt =>
    rename_i uy ut
    cases rt
    obtain ⟨its, rv, ⟨⟨cls, dd, data, sl⟩, n, ho, hc, hdn, hd⟩, hlen⟩ := I.list hs
    simp only at hc hd
    subst hc hd
    refine call_meets PySem.F.slot_list_count ⟨_, ho, rfl⟩ PySem.F.entry_list_count (PySem.F.args_list_count_2 _ _)
      (SeqAt.list_countAt p its.toArray n dd sl uy (eqU (.bl true))) ⟨ho, fun u' hu' => mem_eqAt ry rfl rv (flat_bls bs) u' (by simpa using hu'), ?_⟩
    have ec : its.toArray.toList.countP (eqU (.bl true)) = bs.countP id := by
      clear q ho hs hlen hdn
      show its.countP (eqU (.bl true)) = _
      induction bs generalizing its with
      | nil => cases rv; rfl
      | cons b bs ih =>
        cases rv with
        | cons r rr =>
          have e1 := eqU_of (x := .bl true) r rfl
          rw [List.countP_cons, List.countP_cons, ih _ rr, e1]
          cases b <;> rfl
    rw [ec]
    exact ⟨.int (bs.countP id : Nat), H, I.tok _, ⟨_, rfl⟩, q⟩
/-! ### the text -/
def nameB (x : Str) : Expr → Bool
  | .Name y _ => decide (y = x)
  | _ => false
/-- isinstance(e, c) -/
def isiB (e c : Str) : Expr → Bool
  | .Call (.Name f _) [.Name x _, .Name y _] [] _ => decide (f = ("isinstance" : Str)) && decide (x = e) && decide (y = c)
  | _ => false
def appB (e fl c : Str) : Stmt → Bool
  | .Expr (.Call (.Attribute (.Name f _) m ap) [v] [] cp) _ => decide (f = fl) && decide (m = ("append" : Str)) && (ap.endLine == cp.line) && isiB e c v && okE v
  | _ => false
def strsB : List Str → List Expr → Bool
  | [], [] => true
  | w :: ws, .Constant (.str x) _ _ :: es => decide (x = w) && strsB ws es
  | _, _ => false
/-- fl.m(True) -/
def mTrue (fl m : Str) : Expr → Bool
  | .Call (.Attribute (.Name f _) m' ap) [.Constant (.bool true) _ _] [] cp => decide (f = fl) && decide (m' = m) && (ap.endLine == cp.line)
  | _ => false
def retB (e fl wd b : Str) : Stmt → Bool
  | .Return (some (.IfExp (.BoolOp .And [.Compare l [.Eq] [.Constant (.int 1) _ _] _, i] _) (.Subscript (.Name w _) ix _) (.Constant (.str _) _ _) _)) _ => mTrue fl "count" l && isiB e b i && decide (w = wd) && mTrue fl "index" ix
  | _ => false
def restB (e fl wd b : Str) (ws : List Str) : List Str → List Stmt → Bool
  | c :: cs, s :: r => appB e fl c s && restB e fl wd b ws cs r
  | [], [.Assign [.Name w _] (.List es _) _, r] => decide (w = wd) && strsB ws es && retB e fl wd b r
  | _, _ => false
def saidB (a e fl wd bc b : Str) (c : Str) (cs ws : List Str) : List Stmt → Bool
  | [.Try [.Expr (.Call (.Name a' _) [] [] _) _] [.ExceptHandler (some (.Name b' _)) (some e') (.Assign [.Name f _] (.List [i] _) _ :: r) _] [] [] _, .Return (some (.Constant (.str t) _ _)) _] =>
    decide (a' = a) && decide (b' = bc) && decide (e' = e) && decide (f = fl) && isiB e c i && restB e fl wd b ws cs r && decide (t = ("told" : Str))
  | _ => false
end
/-! ### the suite -/
section
variable {X : Cx} {a D : Addr} {oe : Obj} {pn : List (Addr × Obj)} {e fl wd cl : Str} {Nn : List Str}
/-- what the walk of the suite knows of its context -/
structure SuK (X : Cx) (e fl wd : Str) (cl : Str) : Prop where
  N : X.N = [cl, e, fl, wd]
  nd : X.N.Nodup
  se : X.env.scope.names.lookup e = some .local
  sf : X.env.scope.names.lookup fl = some .local
  sw : X.env.scope.names.lookup wd = some .local
  fn : ∀ x, X.fn x = true
  isi : Gl X "isinstance"
  isn : X.mg "isinstance" = none
  dbg : ∀ x ∈ [e, fl, wd], (x == ("__debug__" : Str)) = false ∧ (x == ("__classdict__" : Str)) = false
def tR (w : Str) (a : Addr) (bs : List Bool) : TS := fun D' σ H => ∃ (H0 : Hp) (p : Addr), σ.length = 4 ∧ σ[1]? = some (some (.ref a)) ∧ σ[2]? = some (some (.ref p)) ∧ H p = some (.lst (bs.map V.bl)) ∧ H0 p = none ∧ Same H0 H ∧ ∀ H'', Same H0 H'' → D'.rt (.str w) H''
/-- a class that isinstance is asked for -/
def ClsA (X : Cx) (D : Addr) (c : Str) (b : Bool) : Prop := Gl X c ∧ (c == ("__debug__" : Str)) = false ∧ ((∃ A : Addr, X.mg c = some (.ref A) ∧ PySem.W.kitOne X.K (.ref D) (.ref A) = some b) ∨ (X.mg c = none ∧ c ≠ "__name__" ∧ ∃ n, bootBuiltins c = some (.type n) ∧ PySem.W.kitOne X.K (.ref D) (.type n) = some b))
theorem pe_isE (k : SuK X e fl wd cl) (C : ExcC X.K D) (hz : Zc (.ref D) none oe) (hf : ∃ vs, oe.data = .fields vs) {c : Str} {b : Bool} (hc : ClsA X D c b) {i : Expr} (hi : isiB e c i = true) :
    PE (X.suite a ((a, oe) :: pn)) i (fun σ H Q => σ[1]? = some (some (.ref a)) ∧ Q (.bl b) H) := by
  unfold isiB at hi
  split at hi
  · obtain ⟨hi, h3⟩ := and_eq hi
    obtain ⟨h1, h2⟩ := and_eq hi
    cases of_decide_eq_true h1
    cases of_decide_eq_true h2
    cases of_decide_eq_true h3
    obtain ⟨g1, g2, g3⟩ := hc
    obtain ⟨d1, d2⟩ := k.dbg e (by simp)
    have hN : (X.suite a ((a, oe) :: pn)).N[1]? = some e := by show X.N[1]? = _; rw [k.N]; rfl
    rcases g3 with ⟨A, hm, hk⟩ | ⟨hm, hn, n, hb, hk⟩
    · exact PE.imp (pe_callB (X := X.suite a ((a, oe) :: pn)) (call_isE C hz hf) k.isi k.isn (by decide +kernel) (pa_cons (pe_var hN (.inl k.se) d1 d2) (pa_cons (pe_glob (v := .ref A) g1 hm rfl g2) pa_nil))) fun σ H Q ⟨h1, h2⟩ =>
        ⟨_, h1, .ref A, .ref A, b, rfl, fun u hu => hu, hk, h2⟩
    · exact PE.imp (pe_callB (X := X.suite a ((a, oe) :: pn)) (call_isE C hz hf) k.isi k.isn (by decide +kernel) (pa_cons (pe_var hN (.inl k.se) d1 d2) (pa_cons (pe_bltn (v := .ty n) g1 hm hb rfl hn g2) pa_nil))) fun σ H Q ⟨h1, h2⟩ =>
        ⟨_, h1, .ty n, .type n, b, rfl, fun u hu => hu, hk, h2⟩
  · cases hi
theorem su_app (k : SuK X e fl wd cl) (C : ExcC X.K D) (hz : Zc (.ref D) none oe) (hf : ∃ vs, oe.data = .fields vs) {c w : Str} {b : Bool} {bs : List Bool} (hc : ClsA X D c b) {s : Stmt} {r : List Stmt} (hs : appB e fl c s = true) (hl : bs.length < sizeLine)
    (hr : PSs (X.suite a ((a, oe) :: pn)) r (tR w a (bs ++ [b]))) : PSs (X.suite a ((a, oe) :: pn)) (s :: r) (tR w a bs) := by
  unfold appB at hs
  split at hs
  · rename_i f q m ap v cp ep
    obtain ⟨hs, h5⟩ := and_eq hs
    obtain ⟨hs, h4⟩ := and_eq hs
    obtain ⟨hs, h3⟩ := and_eq hs
    obtain ⟨h1, h2⟩ := and_eq hs
    cases of_decide_eq_true h1
    cases of_decide_eq_true h2
    obtain ⟨d1, d2⟩ := k.dbg fl (by simp)
    have hN : (X.suite a ((a, oe) :: pn)).N[2]? = some fl := by show X.N[2]? = _; rw [k.N]; rfl
    refine PSs.imp (pss_cons (ps_expr (pe_bm (X := X.suite a ((a, oe) :: pn)) PySem.F.plainAttrs_list PySem.F.slot_list_append PySem.F.type_list_append mt_append (pe_var hN (.inl k.sf) d1 d2) (pa_cons (pe_isE k C hz hf hc h4) pa_nil (star_one h5)) rfl (few_one h5) h3 (star_one h5) rfl) rfl) hr) fun D' σ H ⟨H0, p, l, s1, s2, hp, n, sm, hq⟩ => ?_
    exact ⟨_, s2, .inl ⟨rfl, _, SqL.of hp⟩, s1, p, _, _, rfl, rfl, hp, by rw [List.length_map]; exact hl, H0, p, l, s1, s2, by rw [upd_same, List.map_append]; rfl, n, fun b' u hu => by
      rw [upd_ne (fun z : b' = p => by rw [z, n] at hu; cases hu)]
      exact sm _ _ hu, hq⟩
  · cases hs
theorem pa_strs : ∀ {ws : List Str} {es : List Expr}, strsB ws es = true → PA X es (fun σ H Q => Q (ws.map V.str) H)
  | [], [], _ => PA.imp pa_nil fun σ H Q h => h
  | w :: ws, .Constant (.str x) _ _ :: es, h => by
    unfold strsB at h
    obtain ⟨h1, h2⟩ := and_eq h
    cases of_decide_eq_true h1
    exact PA.imp (pa_cons pe_str (pa_strs h2)) fun σ H Q h => h
  | [], _ :: _, h => by cases h
  | _ :: _, [], h => by cases h
theorem pe_mT (k : SuK X e fl wd cl) {m : Str} {id : String} {r : V → List V → Hp → VK → Prop} (hm : MtR (X.suite a ((a, oe) :: pn)) id r) (slot : PySem.Slot "list" m id) (hty : typeOf (.builtin id) = pure (.type "method_descriptor")) {i : Expr} (hi : mTrue fl m i = true) :
    PE (X.suite a ((a, oe) :: pn)) i (tBM X.K "list" r (tVar 2) (tCons (tC (.bl true)) tNil)) := by
  unfold mTrue at hi
  split at hi
  · rename_i f q m' ap j1 p1 cp
    obtain ⟨hi, h3⟩ := and_eq hi
    obtain ⟨h1, h2⟩ := and_eq hi
    cases of_decide_eq_true h1
    cases of_decide_eq_true h2
    obtain ⟨d1, d2⟩ := k.dbg fl (by simp)
    have hN : (X.suite a ((a, oe) :: pn)).N[2]? = some fl := by show X.N[2]? = _; rw [k.N]; rfl
    exact pe_bm (X := X.suite a ((a, oe) :: pn)) PySem.F.plainAttrs_list slot hty hm (pe_var hN (.inl k.sf) d1 d2) (pa_cons pe_bl pa_nil) rfl rfl h3
  · cases hi
theorem isi_plain {e c : Str} {i : Expr} {env : Env} {whole : Sem Value} (h : isiB e c i = true) : isTrue i env whole = (do let v ← whole; standAt i.pos; holding [v] (truthy v)) := by
  unfold isiB at h
  split at h
  · rfl
  · cases h
theorem mT_plain {fl m : Str} {i : Expr} (h : mTrue fl m i = true) : PlainIx i := by
  unfold mTrue at h
  split at h
  · intro o i; rfl
  · cases h
theorem su_ret (k : SuK X e fl wd cl) (C : ExcC X.K D) (hz : Zc (.ref D) none oe) (hf : ∃ vs, oe.data = .fields vs) {b w : Str} {bs : List Bool} {ws : List Str} {es : List Expr} {r : Stmt} {j : Nat} {q1 q2 q3 : Pos} (hc : ClsA X D b true) (he : strsB ws es = true) (hr : retB e fl wd b r = true) (hw : ws.length ≤ sizeLine)
    (h1 : bs.countP id = 1) (h2 : bs[j]? = some true) (h3 : ∀ m, m < j → bs[m]? = some false) (h4 : ws[j]? = some w) : PSs (X.suite a ((a, oe) :: pn)) [.Assign [.Name wd q1] (.List es q2) q3, r] (tR w a bs) := by
  unfold retB at hr
  split at hr
  · rename_i l x1 x2 x3 i x4 w' x5 ix x6 ot x7 x8 x9 x10
    obtain ⟨hr, r4⟩ := and_eq hr
    obtain ⟨hr, r3⟩ := and_eq hr
    obtain ⟨r1, r2⟩ := and_eq hr
    cases of_decide_eq_true r3
    obtain ⟨d1, d2⟩ := k.dbg wd (by simp)
    have hN : (X.suite a ((a, oe) :: pn)).N[3]? = some wd := by show X.N[3]? = _; rw [k.N]; rfl
    have pcount := pe_mT (a := a) (oe := oe) (pn := pn) k (mt_countB (X := X.suite a ((a, oe) :: pn))) PySem.F.slot_list_count PySem.F.type_list_count r1
    have pindex := pe_mT (a := a) (oe := oe) (pn := pn) k (mt_index (X := X.suite a ((a, oe) :: pn))) PySem.F.slot_list_index PySem.F.type_list_index r4
    have ptest := (pw_and (pos := x4) (pt_cmp (pos := x3) (pc_eqI pcount (pe_int (X := X.suite a ((a, oe) :: pn)) (i := 1) (j := x1) (pos := x2)))) (pw_and1 (pos := x4) (pt_val (pe_isE (a := a) (pn := pn) k C hz hf hc r2) (fun whole => isi_plain r2)))).pt
    have nd : (X.suite a ((a, oe) :: pn)).N.Nodup := k.nd
    have ploc : Loc (X.suite a ((a, oe) :: pn)).env.scope wd := .inl k.sw
    refine PSs.imp (pss_cons (ps_set (X := X.suite a ((a, oe) :: pn)) nd hN ploc (pe_lst (pa_strs he)) rfl (.inl (k.fn wd))) (pss_one (ps_ret (pe_ifExp ptest (pe_ix ix_list (pe_var hN (.inl k.sw) d1 d2) pindex (mT_plain r4)) pe_str)))) fun D' σ H ⟨H0, p, l, s1, s2, hp, n, sm, hq⟩ => ?_
    refine ⟨by rw [List.length_map]; exact hw, fun q hq' => ?_⟩
    have hpq : p ≠ q := fun z => by rw [z, hq'] at hp; cases hp
    have hp' : upd H q (.lst (ws.map V.str)) p = some (.lst (bs.map V.bl)) := by rw [upd_ne hpq]; exact hp
    have s2' : (σ.set 3 (some (.ref q)))[2]? = some (some (.ref p)) := by rw [List.getElem?_set_ne (by omega)]; exact s2
    have s1' : (σ.set 3 (some (.ref q)))[1]? = some (some (.ref a)) := by rw [List.getElem?_set_ne (by omega)]; exact s1
    have s3' : (σ.set 3 (some (.ref q)))[3]? = some (some (.ref q)) := List.getElem?_set_self (by omega)
    refine ⟨_, s2', .inl ⟨rfl, _, SqL.of hp'⟩, p, bs, rfl, rfl, SqL.of hp', _, _, rfl, rfl, _, rfl, ?_⟩
    rw [h1]
    show (if decide (((1 : Nat) : Int) = 1) = true then _ else _)
    rw [if_pos (by decide)]
    refine ⟨s1', true, rfl, ?_⟩
    show (if true = true then _ else _)
    rw [if_pos rfl]
    refine ⟨_, s3', _, s2', .inl ⟨rfl, _, SqL.of hp'⟩, p, _, _, j, .bl true, rfl, rfl, SqL.of hp', rfl, flat_bls bs, by rw [List.getElem?_map, h2]; rfl, rfl, fun m z' hm hz' => ?_, q, ws.map V.str, j, .str w, rfl, rfl, SqL.of upd_same, ?_, ?_⟩
    · rw [List.getElem?_map, h3 m hm] at hz'
      cases hz'
      rfl
    · exact atI_nat (by rw [List.getElem?_map, h4]; rfl)
    · refine hq _ fun b' u hu => ?_
      have : b' ≠ q := fun z => by
        have := sm _ _ hu
        rw [z, hq'] at this; cases this
      rw [upd_ne this]
      exact sm _ _ hu
  · cases hr
def ClsL (X : Cx) (D : Addr) : List Str → List Bool → Prop
  | [], [] => True
  | c :: cs, b :: bs => ClsA X D c b ∧ ClsL X D cs bs
  | _, _ => False
theorem su_rest (k : SuK X e fl wd cl) (C : ExcC X.K D) (hz : Zc (.ref D) none oe) (hf : ∃ vs, oe.data = .fields vs) {b w : Str} {ws : List Str} {j : Nat} (hcb : ClsA X D b true) (hw : ws.length ≤ sizeLine) (h4 : ws[j]? = some w) :
    ∀ (cs : List Str) (bcs bs : List Bool) (r : List Stmt), restB e fl wd b ws cs r = true → ClsL X D cs bcs → (bs ++ bcs).length < sizeLine → (bs ++ bcs).countP id = 1 → (bs ++ bcs)[j]? = some true → (∀ m, m < j → (bs ++ bcs)[m]? = some false) → PSs (X.suite a ((a, oe) :: pn)) r (tR w a bs)
  | [], [], bs, r, hr, _, hl, h1, h2, h3 => by
    rw [List.append_nil] at h1 h2 h3
    unfold restB at hr
    split at hr
    · contradiction
    · obtain ⟨hr, r3⟩ := and_eq hr
      obtain ⟨r1, r2⟩ := and_eq hr
      cases of_decide_eq_true r1
      exact su_ret k C hz hf hcb r2 r3 hw h1 h2 h3 h4
    · cases hr
  | c :: cs, b' :: bcs, bs, r, hr, ⟨hc, hcl⟩, hl, h1, h2, h3 => by
    unfold restB at hr
    split at hr
    · rename_i c' cs' s r' hx
      cases hx
      obtain ⟨r1, r2⟩ := and_eq hr
      have e1 : bs ++ [b'] ++ bcs = bs ++ b' :: bcs := by simp
      refine su_app k C hz hf hc r1 (by simp at hl; omega) (su_rest k C hz hf hcb hw h4 cs bcs (bs ++ [b']) r' r2 hcl (by rw [e1]; exact hl) (by rw [e1]; exact h1) (by rw [e1]; exact h2) (by rw [e1]; exact h3))
    · contradiction
    · cases hr
  | [], _ :: _, _, _, _, h, _, _, _, _ => h.elim
  | _ :: _, [], _, _, _, h, _, _, _, _ => h.elim
/-- the whole suite -/
theorem su_all (k : SuK X e fl wd cl) (C : ExcC X.K D) (hz : Zc (.ref D) none oe) (hf : ∃ vs, oe.data = .fields vs) {b c w : Str} {ws cs : List Str} {j : Nat} {b0 : Bool} {bcs : List Bool} {i : Expr} {q1 q2 q3 : Pos} {r : List Stmt} (hcb : ClsA X D b true) (hw : ws.length ≤ sizeLine) (h4 : ws[j]? = some w)
    (hi : isiB e c i = true) (hc : ClsA X D c b0) (hr : restB e fl wd b ws cs r = true) (hcl : ClsL X D cs bcs) (hl : (b0 :: bcs).length < sizeLine) (h1 : (b0 :: bcs).countP id = 1) (h2 : (b0 :: bcs)[j]? = some true) (h3 : ∀ m, m < j → (b0 :: bcs)[m]? = some false) :
    PSs (X.suite a ((a, oe) :: pn)) (.Assign [.Name fl q1] (.List [i] q2) q3 :: r) (fun D' σ H => σ.length = 4 ∧ σ[1]? = some (some (.ref a)) ∧ ∀ H'', Same H H'' → D'.rt (.str w) H'') := by
  have hN : (X.suite a ((a, oe) :: pn)).N[2]? = some fl := by show X.N[2]? = _; rw [k.N]; rfl
  have nd : (X.suite a ((a, oe) :: pn)).N.Nodup := k.nd
  have ploc : Loc (X.suite a ((a, oe) :: pn)).env.scope fl := .inl k.sf
  have oi : okE i = true := by
    unfold isiB at hi
    split at hi
    · rfl
    · cases hi
  refine PSs.imp (pss_cons (ps_set (X := X.suite a ((a, oe) :: pn)) nd hN ploc (pe_lst (pa_cons (pe_isE k C hz hf hc hi) pa_nil (star_one oi))) rfl (.inl (k.fn fl))) (su_rest k C hz hf hcb hw h4 cs bcs [b0] r hr hcl hl h1 h2 h3)) fun D' σ H ⟨l, s1, hq⟩ => ?_
  refine ⟨s1, by show 1 ≤ sizeLine; rw [sizeLine_eq]; omega, fun q hq' => ⟨H, q, by rw [List.length_set]; exact l, ?_, List.getElem?_set_self (by omega), upd_same, hq', same_upd hq', hq⟩⟩
  rw [List.getElem?_set_ne (by omega)]; exact s1
end
/-! ### the def -/
/-- what is known of a class that may be raised: the word that is told of it -/
def WordK (X : Cx) (CS : Addr) (b c : Str) (cs ws : List Str) (D : Addr) (w : Str) : Prop :=
  ∃ (b0 : Bool) (bcs : List Bool) (j : Nat), PySem.W.exmOne X.K (.ref D) (.ref CS) = some true ∧ ExcC X.K D ∧ ClsA X D b true ∧ ClsA X D c b0 ∧ ClsL X D cs bcs ∧ (b0 :: bcs).length < sizeLine ∧ (b0 :: bcs).countP id = 1 ∧ (b0 :: bcs)[j]? = some true ∧ (∀ m, m < j → (b0 :: bcs)[m]? = some false) ∧ ws[j]? = some w
theorem said_gives {X : Cx} {Cv : Str → Value} {tbl : List (Str × Str)} {x a e fl wd bc b c q : Str} {cs ws : List Str} {sg : Scope} {g CS : Addr} {cdg : Value} {bg : List Stmt} (hb : saidB a e fl wd bc b c cs ws bg = true) (hw : ws.length ≤ sizeLine)
    (hk : ∀ {Y : Cx}, Y.K = X.K → Y.mg = X.mg → Y.N = [a, e, fl, wd] → Y.env.scope = sg → (∀ x, Y.fn x = true) → SuK Y e fl wd a ∧ Gl Y bc ∧ (bc == ("__debug__" : Str)) = false ∧ ∀ cl w, tbl.lookup cl = some w → ∃ D, Cv cl = .ref D ∧ WordK Y CS b c cs ws D w) (hme : X.mg bc = some (.ref CS)) : LamX.GivesTo X [a, e, fl, wd] x sg g cdg bg a q (TTs Cv tbl) := by
  intro f c' s H Q tl act hc h
  unfold saidB at hb
  split at hb
  · rename_i a' p1 p2 p3 b' p4 e' f' p5 i p6 p7 r p8 p9 t x1 p10 p11
    obtain ⟨hb, b7⟩ := and_eq hb
    obtain ⟨hb, b6⟩ := and_eq hb
    obtain ⟨hb, b5⟩ := and_eq hb
    obtain ⟨hb, b4⟩ := and_eq hb
    obtain ⟨hb, b3⟩ := and_eq hb
    obtain ⟨b1, b2⟩ := and_eq hb
    cases of_decide_eq_true b1
    cases of_decide_eq_true b2
    cases of_decide_eq_true b3
    cases of_decide_eq_true b4
    cases of_decide_eq_true b7
    obtain ⟨sk, hgl, hde, hwd⟩ := hk (Y := (cxOf C8.CX0 X.prog X.w X.K X.mg X.base [a, e, fl, wd] x sg g cdg X.A X.stack s H C8.E0).nox) rfl rfl rfl rfl (fun _ => rfl)
    refine ⟨_, pss_cons (ps_try_as (X := (cxOf C8.CX0 X.prog X.w X.K X.mg X.base [a, e, fl, wd] x sg g cdg X.A X.stack s H C8.E0).nox) (i := 1) (c := .ref CS)
        (tb := fun W D σ H => ∃ Ech : XK, (∀ cls d σ' H', Ech cls d H' → W cls d σ' H') ∧ σ[0]? = some (some (.ref f)) ∧ H c' = some (LamX.CodeO c' q) ∧ tl Ech H fun _ H' => D.nx σ H')
        (ts := fun a cls d D' σ H => (∃ σ0 : L2.St, σ = σ0.set 1 (some (.ref a))) ∧ ∃ c w, tbl.lookup c = some w ∧ cls = Cv c ∧ d = none ∧ ∀ H'', Same H H'' → D'.rt (.str w) H'')
        rfl rfl sk.nd rfl sk.se ⟨hgl, hde, .inl hme⟩ LamX.takes0 (fun W pn xe tk _ => ?_) (fun a' oe cls d pn hz hf => ?_)) (pss_one (ps_ret pe_str)), ?_⟩
    · refine ⟨fun pins s' σ H' D I h' => ?_⟩
      obtain ⟨Ech, hW, h1, h2, h3⟩ := h'
      have hp := act W pn xe Ech p1 p2 tk hW
      have hq := pss_one (ps_expr (pos := p3) hp rfl)
      exact hq.run pins s' σ H' D I ⟨h1, h2, h3⟩
    · refine ⟨fun pins s' σ H' D' I h' => ?_⟩
      obtain ⟨⟨σ0, e0⟩, cl, w, hl, hcl, hd, hq⟩ := h'
      obtain ⟨D, hD, b0, bcs, j, _, hC, w1, w2, w3, w4, w5, w6, w7, w8⟩ := hwd cl w hl
      rw [hD] at hcl
      subst hcl hd
      have hlen : σ.length = 4 := I.len
      refine (su_all sk hC hz hf w1 hw w8 b5 w2 b6 w3 w4 w5 w6 w7).run pins s' σ H' D' I ⟨hlen, ?_, hq⟩
      rw [e0]
      rw [e0, List.length_set] at hlen
      exact List.getElem?_set_self (by omega)
    · refine ⟨fun cls d H' => d = none ∧ ∃ c w, tbl.lookup c = some w ∧ cls = Cv c ∧ ∀ H'', Same H' H'' → Q (.str w) H'', fun cls d σ' H' ⟨hd, cl, w, hl, hcl, hq⟩ => ?_, rfl, hc, h⟩
      obtain ⟨D, hD, b0, bcs, j, hx, _⟩ := hwd cl w hl
      exact ⟨true, by rw [hcl, hD]; exact hx, fun _ a ha => ⟨⟨σ', rfl⟩, cl, w, hl, hcl, hd, hq⟩, fun z => by cases z⟩
  · cases hb
end Ev

set_option Elab.async false
set_option linter.all false
set_option maxRecDepth 100000
set_option maxHeartbeats 400000
/-! The telling def by a head's facts. -/
namespace Ev
open PySem PySem.Spec PyProof.Rows L2
def tellB : List Bool → List Str → Str → Bool
  | true :: r, w' :: _, w => decide (w' = w) && r.all (!·)
  | false :: r, _ :: ws, w => tellB r ws w
  | _, _, _ => false
theorem tellB_ok : ∀ {bs : List Bool} {ws : List Str} {w : Str}, tellB bs ws w = true → bs.countP id = 1 ∧ ∃ j : Nat, bs[j]? = some true ∧ (∀ m : Nat, m < j → bs[m]? = some false) ∧ ws[j]? = some w
  | true :: r, w' :: _, w, h => by
    unfold tellB at h
    obtain ⟨h1, h2⟩ := and_eq h
    cases of_decide_eq_true h1
    refine ⟨?_, 0, rfl, fun m hm => absurd hm (Nat.not_lt_zero _), rfl⟩
    rw [List.countP_cons]
    have : r.countP id = 0 := List.countP_eq_zero.mpr fun b hb => by
      have := List.all_eq_true.mp h2 b hb
      cases b
      · simp
      · cases this
    rw [this]; rfl
  | false :: r, _ :: ws, w, h => by
    unfold tellB at h
    obtain ⟨h1, j, h2, h3, h4⟩ := tellB_ok h
    refine ⟨by rw [List.countP_cons, h1]; rfl, j + 1, by simpa using h2, fun m hm => ?_, by simpa using h4⟩
    cases m with
    | zero => rfl
    | succ m => simpa using h3 m (by omega)
  | [], _, _, h => by cases h
  | true :: _, [], _, h => by cases h
  | false :: _, [], _, h => by cases h
def excCB (K : PySem.W.Frag) (D : Addr) : Bool :=
  decide (PySem.W.findIn K (.ref D) "__getattribute__" = some (some (.builtin "BaseException.__getattribute__"))) && decide (PySem.W.findIn K (.ref D) "__getattr__" = some none) && decide (PySem.W.subIn K (.ref D) (.type "BaseException") = some true) && PySem.W.hasDictIn K D &&
    decide (PySem.W.findIn K (.ref D) "__class__" = some (some (.builtin "object.__class__"))) && decide (PySem.W.specialIn K (.builtin "object.__class__") "__get__" = some (some (.builtin "getset_descriptor.__get__"))) && decide (PySem.W.takesIn K (.builtin "object.__class__") = some true) && decide (PySem.W.mroIn K D (.type "object") = some true)
theorem excCB_ok {K : PySem.W.Frag} {D : Addr} (h : excCB K D = true) : ExcC K D := by
  unfold excCB at h
  obtain ⟨h, h8⟩ := and_eq h
  obtain ⟨h, h7⟩ := and_eq h
  obtain ⟨h, h6⟩ := and_eq h
  obtain ⟨h, h5⟩ := and_eq h
  obtain ⟨h, h4⟩ := and_eq h
  obtain ⟨h, h3⟩ := and_eq h
  obtain ⟨h1, h2⟩ := and_eq h
  exact ⟨of_decide_eq_true h1, of_decide_eq_true h2, of_decide_eq_true h3, h4, of_decide_eq_true h5, of_decide_eq_true h6, of_decide_eq_true h7, of_decide_eq_true h8⟩
def kitL (K : PySem.W.Frag) (D : Addr) : List Str → Option (List Bool)
  | [] => some []
  | c :: cs => match PySem.W.kitOne K (.ref D) (.ref (He.ga K c)), kitL K D cs with
    | some b, some bs => some (b :: bs)
    | _, _ => none
/-- the telling def: its parameter, its names, the class caught, the classes asked for, the words -/
structure SdD where
  f : Str
  a : Str
  e : Str
  fl : Str
  wd : Str
  bc : Str
  c : Str
  cs : List Str
  ws : List Str
def wordB (K : PySem.W.Frag) (s : SdD) (cl w : Str) : Bool :=
  decide (PySem.W.exmOne K (.ref (He.ga K cl)) (.ref (He.ga K s.bc)) = some true) && excCB K (He.ga K cl) && decide (PySem.W.kitOne K (.ref (He.ga K cl)) (.type "ValueError") = some true) && (match kitL K (He.ga K cl) (s.c :: s.cs) with
    | some bs => tellB bs s.ws w
    | none => false)
def moreOf (s : SdD) (tbl : List (Str × Str)) (K : PySem.W.Frag) : Bool := tbl.all fun p => wordB K s p.1 p.2
/-- the text and the scope of the telling def -/
def sdB (s : SdD) (d : He.DefD) : Bool :=
  decide (d.at_ = (s.f, none)) && decide (d.name = s.f) && decide (d.qual = s.f) && dflt d && decide (plainArgs d.params = some [s.a]) && nodupS [s.a, s.e, s.fl, s.wd] && (match d.scope.kind with | .function => true | _ => false) && !d.scope.isCoroutine && !d.scope.isGenerator &&
    locB d.scope s.a && (d.scope.names.all fun y => !isFree y.2) && decide (d.scope.names.lookup s.e = some .local) && decide (d.scope.names.lookup s.fl = some .local) && decide (d.scope.names.lookup s.wd = some .local) && glB d.scope "isinstance" && glB d.scope "ValueError" &&
    ((s.bc :: s.c :: s.cs).all fun x => glB d.scope x) && ([s.a, s.e, s.fl, s.wd].all fun x => !(x == ("__debug__" : Str)) && !(x == ("__classdict__" : Str))) && saidB s.a s.e s.fl s.wd s.bc "ValueError" s.c s.cs s.ws d.body && okLen s.ws.length && Nat.blt (s.c :: s.cs).length line
section
variable {K : PySem.W.Frag} {h : Heap} {mg : Str → Option Value} {s : SdD} {d : He.DefD} {tbl : List (Str × Str)} {fn : List He.DefD} {fa : List He.Fa}
theorem gl_of {Y : Cx} {sg : Scope} {x : Str} (e : Y.env.scope = sg) (hx : glB sg x = true) : Gl Y x ∧ (x == ("__debug__" : Str)) = false := by
  unfold glB at hx
  split at hx
  · rename_i q
    refine ⟨?_, by simpa using hx⟩
    show Y.env.scope.names.lookup x = _
    rw [e]; exact q
  · cases hx
theorem said_of (hK : K.In h) (hns : h.Ns mainGlobals mg) (c : He.SaysD fa fn K) (hd : d ∈ fn) (hs : sdB s d = true) (hm : moreOf s tbl K = true) (hfa : ∀ x ∈ s.f :: s.bc :: s.c :: s.cs, He.Fa.glo x ∈ fa) (hfree : He.Fa.free "isinstance" ∈ fa ∧ He.Fa.free "ValueError" ∈ fa) : SaidK K mg (cvOf K) s.f tbl := by
  unfold sdB at hs
  obtain ⟨hs, k21⟩ := and_eq hs
  obtain ⟨hs, k20⟩ := and_eq hs
  obtain ⟨hs, k19⟩ := and_eq hs
  obtain ⟨hs, k18⟩ := and_eq hs
  obtain ⟨hs, k17⟩ := and_eq hs
  obtain ⟨hs, k16⟩ := and_eq hs
  obtain ⟨hs, k15⟩ := and_eq hs
  obtain ⟨hs, k14⟩ := and_eq hs
  obtain ⟨hs, k13⟩ := and_eq hs
  obtain ⟨hs, k12⟩ := and_eq hs
  obtain ⟨hs, k11⟩ := and_eq hs
  obtain ⟨hs, k10⟩ := and_eq hs
  obtain ⟨hs, k9⟩ := and_eq hs
  obtain ⟨hs, k8⟩ := and_eq hs
  obtain ⟨hs, k7⟩ := and_eq hs
  obtain ⟨hs, k6⟩ := and_eq hs
  obtain ⟨hs, k5⟩ := and_eq hs
  obtain ⟨hs, k4⟩ := and_eq hs
  obtain ⟨hs, k3⟩ := and_eq hs
  obtain ⟨k1, k2⟩ := and_eq hs
  have gm : ∀ x ∈ s.f :: s.bc :: s.c :: s.cs, mg x = some (.ref (He.ga K x)) := fun x hx => He.glo_ok hK hns (He.SaysD.facts c (hfa x hx))
  obtain ⟨fd, F⟩ := He.SaysD.defs c hd
  unfold dflt at k4
  obtain ⟨k4a, k4b⟩ := and_eq k4
  have e7 : d.dvs K = [] := by unfold He.DefD.dvs; rw [List.isEmpty_iff.mp k4a]; rfl
  have e8 : d.kws K = [] := by unfold He.DefD.kws; rw [List.isEmpty_iff.mp k4b]; rfl
  have e9 : He.fAd K d.at_ = He.ga K s.f := by rw [of_decide_eq_true k1]; rfl
  rw [of_decide_eq_true k2, of_decide_eq_true k3, e7, e8, e9] at F
  have nd := nodupS_ok k6
  have bn : L2.Binds K fd [s.a] [] := F.bindsN fun kV doc pm an cdv ct us hl => bind_plain (of_decide_eq_true k5) (by simp) hl
  have hkind : d.scope.kind = .function := by
    split at k7
    · assumption
    · cases k7
  have dbg : ∀ x ∈ [s.a, s.e, s.fl, s.wd], (x == ("__debug__" : Str)) = false ∧ (x == ("__classdict__" : Str)) = false := fun x hx => by
    obtain ⟨a, b⟩ := and_eq (List.all_eq_true.mp k18 x hx)
    exact ⟨not_eq a, not_eq b⟩
  have va : d.scope.names.lookup s.a = some .local ∨ d.scope.names.lookup s.a = some .cell := by
    unfold locB at k10
    split at k10
    · exact .inl (by assumption)
    · exact .inr (by assumption)
    · cases k10
  obtain ⟨oc, od, dV, kV, doc, pm, an, cdv, ct, osl, rfl, lk, hcd, _, _⟩ := F.ex
  refine ⟨He.ga K s.f, d.params, d.body, d.scope, dV, kV, doc, pm, cdv, ct, oc, an, od, osl, [s.a, s.e, s.fl, s.wd], s.a, gm _ (by simp), F.kp, lk, hcd, bn, ⟨hkind, not_eq k8, not_eq k9, nd, rfl, fun x hx => ?_, fun y hy e => ?_⟩, rfl, ?_, (dbg s.a (by simp)).1, (dbg s.a (by simp)).2, fun X q eK em _ => ?_⟩
  · cases List.mem_singleton.mp hx
    exact va
  · have := not_eq (List.all_eq_true.mp k11 y hy)
    rw [e] at this
    cases this
  · exact va.elim .inl fun z => .inr (.inl z)
  · refine said_gives k19 (okLen_le k20) (fun {Y} yK ym yN ys yf => ?_) (by rw [em]; exact gm s.bc (by simp))
    have gl : ∀ {x : Str}, glB d.scope x = true → Gl Y x ∧ (x == ("__debug__" : Str)) = false := fun hx => gl_of ys hx
    have gcs : ∀ x ∈ s.bc :: s.c :: s.cs, Gl Y x ∧ (x == ("__debug__" : Str)) = false := fun x hx => gl (List.all_eq_true.mp k17 x hx)
    refine ⟨⟨yN, by rw [yN]; exact nd, by rw [ys]; exact of_decide_eq_true k12, by rw [ys]; exact of_decide_eq_true k13, by rw [ys]; exact of_decide_eq_true k14, yf, (gl k15).1, by rw [ym, em]; exact He.free_ok hK hns (He.SaysD.facts c hfree.1), fun x hx => dbg x (List.mem_cons_of_mem _ hx)⟩, (gcs s.bc (by simp)).1, (gcs s.bc (by simp)).2, fun cl w hl => ?_⟩
    have hw := List.all_eq_true.mp hm (cl, w) (PySem.mem_of_lookup hl)
    unfold wordB at hw
    obtain ⟨hw, w4⟩ := and_eq hw
    obtain ⟨hw, w3⟩ := and_eq hw
    obtain ⟨w1, w2⟩ := and_eq hw
    refine ⟨He.ga K cl, rfl, ?_⟩
    have clA : ∀ {x : Str} {b : Bool}, x ∈ s.c :: s.cs → PySem.W.kitOne K (.ref (He.ga K cl)) (.ref (He.ga K x)) = some b → ClsA Y (He.ga K cl) x b := fun {x b} hx hk => by
      obtain ⟨g1, g2⟩ := gcs x (List.mem_cons_of_mem _ hx)
      exact ⟨g1, g2, .inl ⟨He.ga K x, by rw [ym, em]; exact gm x (List.mem_cons_of_mem _ (List.mem_cons_of_mem _ hx)), by rw [yK, eK]; exact hk⟩⟩
    have clL : ∀ {cs : List Str} {bs : List Bool}, (∀ x ∈ cs, x ∈ s.c :: s.cs) → kitL K (He.ga K cl) cs = some bs → ClsL Y (He.ga K cl) cs bs ∧ bs.length = cs.length := fun {cs} => by
      induction cs with
      | nil => intro bs _ e; cases e; exact ⟨trivial, rfl⟩
      | cons x xs ih =>
        intro bs hsub e
        unfold kitL at e
        split at e
        · rename_i b bs' e1 e2
          cases e
          obtain ⟨i1, i2⟩ := ih (fun y hy => hsub y (List.mem_cons_of_mem _ hy)) e2
          exact ⟨⟨clA (hsub x List.mem_cons_self) e1, i1⟩, by rw [List.length_cons, List.length_cons, i2]⟩
        · cases e
    split at w4
    · rename_i bs eb
      obtain ⟨t1, j, t2, t3, t4⟩ := tellB_ok w4
      obtain ⟨cL, cl2⟩ := clL (fun x hx => hx) eb
      cases bs with
      | nil => exact cL.elim
      | cons b0 bcs =>
        have hl2 := blt_lt k21
        rw [line_eq] at hl2
        exact ⟨b0, bcs, j, by rw [yK, eK]; exact of_decide_eq_true w1, by rw [yK, eK]; exact excCB_ok w2, ⟨(gl k16).1, (gl k16).2, .inr ⟨by rw [ym, em]; exact He.free_ok hK hns (He.SaysD.facts c hfree.2), by decide, "ValueError", by decide +kernel, by rw [yK, eK]; exact of_decide_eq_true w3⟩⟩, cL.1, cL.2, by rw [cl2]; exact hl2, t1, t2, t3, t4⟩
    · cases w4
end
theorem fa_sd {G : Sx} {sd : List Str} {x : Str} (h : x ∈ sd) : He.Fa.glo x ∈ faOf G sd := by
  unfold faOf
  simp only [List.mem_append]
  exact .inl (.inl (.inl (.inl (.inl (.inr (List.mem_map.mpr ⟨x, h, rfl⟩))))))
theorem fa_free {G : Sx} {sd : List Str} {x : Str} (h : x ∈ bltNames) : He.Fa.free x ∈ faOf G sd := by
  unfold faOf
  simp only [List.mem_append]
  exact .inl (.inl (.inl (.inl (.inr (List.mem_map.mpr ⟨x, h, rfl⟩)))))
end Ev

set_option maxRecDepth 100000
namespace Core88
open PySem Ev
def s_ : Str := ⟨#[]⟩
def s__20_ : Str := ⟨#[32]⟩
def s__2d_ : Str := ⟨#[45]⟩
def s__2f_ : Str := ⟨#[47]⟩
def s_1 : Str := ⟨#[49]⟩
def s_4_20_0_20_2_3a__20_b4 : Str := ⟨#[52, 32, 48, 32, 50, 58, 32, 98, 52]⟩
def s_7_20_1_20_10_3a__20_b3_20_g1_20_b2_20_c1_2f_7 : Str := ⟨#[55, 32, 49, 32, 49, 48, 58, 32, 98, 51, 32, 103, 49, 32, 98, 50, 32, 99, 49, 47, 55]⟩
def s__3a_ : Str := ⟨#[58]⟩
def s__3a__20_ : Str := ⟨#[58, 32]⟩
def s_BAR : Str := ⟨#[66, 65, 82]⟩
def s_BEST : Str := ⟨#[66, 69, 83, 84]⟩
def s_BOX : Str := ⟨#[66, 79, 88]⟩
def s_CUT : Str := ⟨#[67, 85, 84]⟩
def s_GAP : Str := ⟨#[71, 65, 80]⟩
def s_MOST_5f_FEE : Str := ⟨#[77, 79, 83, 84, 95, 70, 69, 69]⟩
def s_MOST_5f_ITEMS : Str := ⟨#[77, 79, 83, 84, 95, 73, 84, 69, 77, 83]⟩
def s_MOST_5f_WIDE : Str := ⟨#[77, 79, 83, 84, 95, 87, 73, 68, 69]⟩
def s_NARROW : Str := ⟨#[78, 65, 82, 82, 79, 87]⟩
def s_NOTHING : Str := ⟨#[78, 79, 84, 72, 73, 78, 71]⟩
def s_NoBreaking : Str := ⟨#[78, 111, 66, 114, 101, 97, 107, 105, 110, 103]⟩
def s_NoFee : Str := ⟨#[78, 111, 70, 101, 101]⟩
def s_NoMeasure : Str := ⟨#[78, 111, 77, 101, 97, 115, 117, 114, 101]⟩
def s_NoParagraph : Str := ⟨#[78, 111, 80, 97, 114, 97, 103, 114, 97, 112, 104]⟩
def s_SIGNS : Str := ⟨#[83, 73, 71, 78, 83]⟩
def s_SIZES : Str := ⟨#[83, 73, 90, 69, 83]⟩
def s_STOP : Str := ⟨#[83, 84, 79, 80]⟩
def s__5f_law_5f_any : Str := ⟨#[95, 108, 97, 119, 95, 97, 110, 121]⟩
def s__5f_law_5f_breaking : Str := ⟨#[95, 108, 97, 119, 95, 98, 114, 101, 97, 107, 105, 110, 103]⟩
def s__5f_law_5f_draw : Str := ⟨#[95, 108, 97, 119, 95, 100, 114, 97, 119]⟩
def s__5f_law_5f_hand : Str := ⟨#[95, 108, 97, 119, 95, 104, 97, 110, 100]⟩
def s__5f_law_5f_item : Str := ⟨#[95, 108, 97, 119, 95, 105, 116, 101, 109]⟩
def s__5f_law_5f_paragraph : Str := ⟨#[95, 108, 97, 119, 95, 112, 97, 114, 97, 103, 114, 97, 112, 104]⟩
def s__5f_law_5f_report : Str := ⟨#[95, 108, 97, 119, 95, 114, 101, 112, 111, 114, 116]⟩
def s__5f_law_5f_right : Str := ⟨#[95, 108, 97, 119, 95, 114, 105, 103, 104, 116]⟩
def s__5f_law_5f_said : Str := ⟨#[95, 108, 97, 119, 95, 115, 97, 105, 100]⟩
def s_all_20_ : Str := ⟨#[97, 108, 108, 32]⟩
def s_all_20_2_20_12 : Str := ⟨#[97, 108, 108, 32, 50, 32, 49, 50]⟩
def s_at : Str := ⟨#[97, 116]⟩
def s_b : Str := ⟨#[98]⟩
def s_bad : Str := ⟨#[98, 97, 100]⟩
def s_begin : Str := ⟨#[98, 101, 103, 105, 110]⟩
def s_behind : Str := ⟨#[98, 101, 104, 105, 110, 100]⟩
def s_best : Str := ⟨#[98, 101, 115, 116]⟩
def s_best_5f_report : Str := ⟨#[98, 101, 115, 116, 95, 114, 101, 112, 111, 114, 116]⟩
def s_best_5f_told : Str := ⟨#[98, 101, 115, 116, 95, 116, 111, 108, 100]⟩
def s_between : Str := ⟨#[98, 101, 116, 119, 101, 101, 110]⟩
def s_box : Str := ⟨#[98, 111, 120]⟩
def s_breaking : Str := ⟨#[98, 114, 101, 97, 107, 105, 110, 103]⟩
def s_breaking_5f_report : Str := ⟨#[98, 114, 101, 97, 107, 105, 110, 103, 95, 114, 101, 112, 111, 114, 116]⟩
def s_c : Str := ⟨#[99]⟩
def s_cell : Str := ⟨#[99, 101, 108, 108]⟩
def s_cells : Str := ⟨#[99, 101, 108, 108, 115]⟩
def s_check_5f_asked : Str := ⟨#[99, 104, 101, 99, 107, 95, 97, 115, 107, 101, 100]⟩
def s_check_5f_fee : Str := ⟨#[99, 104, 101, 99, 107, 95, 102, 101, 101]⟩
def s_check_5f_measure : Str := ⟨#[99, 104, 101, 99, 107, 95, 109, 101, 97, 115, 117, 114, 101]⟩
def s_check_5f_paragraph : Str := ⟨#[99, 104, 101, 99, 107, 95, 112, 97, 114, 97, 103, 114, 97, 112, 104]⟩
def s_come_5f_to : Str := ⟨#[99, 111, 109, 101, 95, 116, 111]⟩
def s_cost : Str := ⟨#[99, 111, 115, 116]⟩
def s_cost_5f_of : Str := ⟨#[99, 111, 115, 116, 95, 111, 102]⟩
def s_costs_5f_ahead : Str := ⟨#[99, 111, 115, 116, 115, 95, 97, 104, 101, 97, 100]⟩
def s_costs_5f_behind : Str := ⟨#[99, 111, 115, 116, 115, 95, 98, 101, 104, 105, 110, 100]⟩
def s_cut : Str := ⟨#[99, 117, 116]⟩
def s_digit : Str := ⟨#[100, 105, 103, 105, 116]⟩
def s_due : Str := ⟨#[100, 117, 101]⟩
def s_end : Str := ⟨#[101, 110, 100]⟩
def s_ends_5f_of : Str := ⟨#[101, 110, 100, 115, 95, 111, 102]⟩
def s_fee : Str := ⟨#[102, 101, 101]⟩
def s_found : Str := ⟨#[102, 111, 117, 110, 100]⟩
def s_g : Str := ⟨#[103]⟩
def s_gap : Str := ⟨#[103, 97, 112]⟩
def s_hand : Str := ⟨#[104, 97, 110, 100]⟩
def s_has_5f_stop : Str := ⟨#[104, 97, 115, 95, 115, 116, 111, 112]⟩
def s_here : Str := ⟨#[104, 101, 114, 101]⟩
def s_high : Str := ⟨#[104, 105, 103, 104]⟩
def s_hyphen : Str := ⟨#[104, 121, 112, 104, 101, 110]⟩
def s_is_5f_breaking_5f_of : Str := ⟨#[105, 115, 95, 98, 114, 101, 97, 107, 105, 110, 103, 95, 111, 102]⟩
def s_is_5f_cut : Str := ⟨#[105, 115, 95, 99, 117, 116]⟩
def s_is_5f_fee : Str := ⟨#[105, 115, 95, 102, 101, 101]⟩
def s_is_5f_free_5f_end : Str := ⟨#[105, 115, 95, 102, 114, 101, 101, 95, 101, 110, 100]⟩
def s_is_5f_integer : Str := ⟨#[105, 115, 95, 105, 110, 116, 101, 103, 101, 114]⟩
def s_is_5f_item : Str := ⟨#[105, 115, 95, 105, 116, 101, 109]⟩
def s_is_5f_number : Str := ⟨#[105, 115, 95, 110, 117, 109, 98, 101, 114]⟩
def s_is_5f_paragraph : Str := ⟨#[105, 115, 95, 112, 97, 114, 97, 103, 114, 97, 112, 104]⟩
def s_is_5f_sized : Str := ⟨#[105, 115, 95, 115, 105, 122, 101, 100]⟩
def s_is_5f_within : Str := ⟨#[105, 115, 95, 119, 105, 116, 104, 105, 110]⟩
def s_item : Str := ⟨#[105, 116, 101, 109]⟩
def s_item_5f_text : Str := ⟨#[105, 116, 101, 109, 95, 116, 101, 120, 116]⟩
def s_items : Str := ⟨#[105, 116, 101, 109, 115]⟩
def s_items_5f_line : Str := ⟨#[105, 116, 101, 109, 115, 95, 108, 105, 110, 101]⟩
def s_kind : Str := ⟨#[107, 105, 110, 100]⟩
def s_lack : Str := ⟨#[108, 97, 99, 107]⟩
def s_law : Str := ⟨#[108, 97, 119]⟩
def s_least_5f_breaking : Str := ⟨#[108, 101, 97, 115, 116, 95, 98, 114, 101, 97, 107, 105, 110, 103]⟩
def s_least_5f_wide : Str := ⟨#[108, 101, 97, 115, 116, 95, 119, 105, 100, 101]⟩
def s_line_5f_cost : Str := ⟨#[108, 105, 110, 101, 95, 99, 111, 115, 116]⟩
def s_line_5f_lack : Str := ⟨#[108, 105, 110, 101, 95, 108, 97, 99, 107]⟩
def s_line_5f_report : Str := ⟨#[108, 105, 110, 101, 95, 114, 101, 112, 111, 114, 116]⟩
def s_line_5f_width : Str := ⟨#[108, 105, 110, 101, 95, 119, 105, 100, 116, 104]⟩
def s_lines : Str := ⟨#[108, 105, 110, 101, 115]⟩
def s_lines_5f_within : Str := ⟨#[108, 105, 110, 101, 115, 95, 119, 105, 116, 104, 105, 110]⟩
def s_low : Str := ⟨#[108, 111, 119]⟩
def s_many : Str := ⟨#[109, 97, 110, 121]⟩
def s_measure : Str := ⟨#[109, 101, 97, 115, 117, 114, 101]⟩
def s_narrow : Str := ⟨#[110, 97, 114, 114, 111, 119]⟩
def s_narrow_20_ : Str := ⟨#[110, 97, 114, 114, 111, 119, 32]⟩
def s_narrow_20__2d_ : Str := ⟨#[110, 97, 114, 114, 111, 119, 32, 45]⟩
def s_none : Str := ⟨#[110, 111, 110, 101]⟩
def s_number : Str := ⟨#[110, 117, 109, 98, 101, 114]⟩
def s_numbers : Str := ⟨#[110, 117, 109, 98, 101, 114, 115]⟩
def s_odd : Str := ⟨#[111, 100, 100]⟩
def s_off : Str := ⟨#[111, 102, 102]⟩
def s_one : Str := ⟨#[111, 110, 101]⟩
def s_other : Str := ⟨#[111, 116, 104, 101, 114]⟩
def s_pair : Str := ⟨#[112, 97, 105, 114]⟩
def s_pairs : Str := ⟨#[112, 97, 105, 114, 115]⟩
def s_paragraph : Str := ⟨#[112, 97, 114, 97, 103, 114, 97, 112, 104]⟩
def s_place : Str := ⟨#[112, 108, 97, 99, 101]⟩
def s_places : Str := ⟨#[112, 108, 97, 99, 101, 115]⟩
def s_raw_5f_best : Str := ⟨#[114, 97, 119, 95, 98, 101, 115, 116]⟩
def s_raw_5f_breaking_5f_report : Str := ⟨#[114, 97, 119, 95, 98, 114, 101, 97, 107, 105, 110, 103, 95, 114, 101, 112, 111, 114, 116]⟩
def s_raw_5f_cost : Str := ⟨#[114, 97, 119, 95, 99, 111, 115, 116]⟩
def s_raw_5f_fee : Str := ⟨#[114, 97, 119, 95, 102, 101, 101]⟩
def s_raw_5f_goes : Str := ⟨#[114, 97, 119, 95, 103, 111, 101, 115]⟩
def s_raw_5f_lines : Str := ⟨#[114, 97, 119, 95, 108, 105, 110, 101, 115]⟩
def s_raw_5f_places : Str := ⟨#[114, 97, 119, 95, 112, 108, 97, 99, 101, 115]⟩
def s_raw_5f_stops : Str := ⟨#[114, 97, 119, 95, 115, 116, 111, 112, 115]⟩
def s_raw_5f_wide : Str := ⟨#[114, 97, 119, 95, 119, 105, 100, 101]⟩
def s_rows : Str := ⟨#[114, 111, 119, 115]⟩
def s_s : Str := ⟨#[115]⟩
def s_said : Str := ⟨#[115, 97, 105, 100]⟩
def s_script : Str := ⟨#[115, 99, 114, 105, 112, 116]⟩
def s_some : Str := ⟨#[115, 111, 109, 101]⟩
def s_stop : Str := ⟨#[115, 116, 111, 112]⟩
def s_thing : Str := ⟨#[116, 104, 105, 110, 103]⟩
def s_told : Str := ⟨#[116, 111, 108, 100]⟩
def s_total : Str := ⟨#[116, 111, 116, 97, 108]⟩
def s_turn : Str := ⟨#[116, 117, 114, 110]⟩
def s_w : Str := ⟨#[119]⟩
def s_whole : Str := ⟨#[119, 104, 111, 108, 101]⟩
def s_wide : Str := ⟨#[119, 105, 100, 101]⟩
def s_words : Str := ⟨#[119, 111, 114, 100, 115]⟩
def saidT : List (Str × Str) := [(s_NoBreaking, s_breaking), (s_NoFee, s_fee), (s_NoMeasure, s_measure), (s_NoParagraph, s_paragraph)]
def f_is_integer : Fn := ⟨1, [s_thing], [], (.cons (.ret (.and (.bi .isInt (.cons (.var 0) .nil)) (.not (.bi .isBool (.cons (.var 0) .nil))))) .nil)⟩
def f_is_within : Fn := ⟨3, [s_thing, s_low, s_high], [], (.cons (.ret (.and (.call s_is_5f_integer (.cons (.var 0) .nil)) (.chain .le .le (.var 1) (.var 0) (.var 2)))) .nil)⟩
def f_is_number : Fn := ⟨1, [s_thing], [], (.cons (.ret (.and (.call s_is_5f_integer (.cons (.var 0) .nil)) (.cmp .ge (.var 0) (.cst (.int 0))))) .nil)⟩
def f_is_sized : Fn := ⟨3, [s_thing, s_low, s_high], [], (.cons (.ret (.and (.bi .isTuple (.cons (.var 0) .nil)) (.chain .le .le (.var 1) (.bi .len (.cons (.var 0) .nil)) (.var 2)))) .nil)⟩
def f_check_measure : Fn := ⟨1, [s_w], [], (.cons (.ite (.not (.call s_is_5f_number (.cons (.var 0) .nil))) (.cons (.raise s_NoMeasure) .nil) .nil) .nil)⟩
def f_is_item : Fn := ⟨1, [s_thing, s_least_5f_wide], [], (.cons (.ite (.or (.not (.bi .isTuple (.cons (.var 0) .nil))) (.or (.cmp .eq (.bi .len (.cons (.var 0) .nil)) (.cst (.int 0))) (.or (.not (.bi .isStr (.cons (.sub (.var 0) (.cst (.int 0))) .nil))) (.ingdict true s_SIZES (.sub (.var 0) (.cst (.int 0))) [(.inr s_box, (.int 2)), (.inr s_gap, (.int 2)), (.inr s_cut, (.int 3)), (.inr s_stop, (.int 1))])))) (.cons (.ret (.cst (.bool false))) .nil) .nil) (.cons (.ite (.cmp .ne (.bi .len (.cons (.var 0) .nil)) (.gdict s_SIZES (.sub (.var 0) (.cst (.int 0))) [(.inr s_box, (.int 2)), (.inr s_gap, (.int 2)), (.inr s_cut, (.int 3)), (.inr s_stop, (.int 1))])) (.cons (.ret (.cst (.bool false))) .nil) .nil) (.cons (.ite (.cmp .eq (.sub (.var 0) (.cst (.int 0))) (.glb s_STOP (.str s_stop))) (.cons (.ret (.cst (.bool true))) .nil) .nil) (.cons (.set (.nm 1) (.ite (.cmp .eq (.sub (.var 0) (.cst (.int 0))) (.glb s_BOX (.str s_box))) (.cst (.int 1)) (.cst (.int 0)))) (.cons (.ret (.and (.call s_is_5f_within (.cons (.sub (.var 0) (.cst (.int 1))) (.cons (.var 1) (.cons (.glb s_MOST_5f_WIDE (.int 1000)) .nil)))) (.or (.cmp .ne (.sub (.var 0) (.cst (.int 0))) (.glb s_CUT (.str s_cut))) (.call s_is_5f_within (.cons (.sub (.var 0) (.cst (.int 2))) (.cons (.cst (.int 0)) (.cons (.glb s_MOST_5f_FEE (.int 1000000)) .nil))))))) .nil)))))⟩
def f_is_paragraph : Fn := ⟨1, [s_thing, s_one, s_other], [], (.cons (.ite (.or (.not (.call s_is_5f_sized (.cons (.var 0) (.cons (.cst (.int 1)) (.cons (.glb s_MOST_5f_ITEMS (.int 40)) .nil))))) (.not (.bi .all (.cons (.comp [1] (.nm 1) (.seq (.var 0)) .nil (.call s_is_5f_item (.cons (.var 1) .nil))) .nil)))) (.cons (.ret (.cst (.bool false))) .nil) .nil) (.cons (.ite (.or (.cmp .ne (.sub (.sub (.var 0) (.cst (.int 0))) (.cst (.int 0))) (.glb s_BOX (.str s_box))) (.cmp .ne (.sub (.sub (.var 0) (.neg (.cst (.int 1)))) (.cst (.int 0))) (.glb s_BOX (.str s_box)))) (.cons (.ret (.cst (.bool false))) .nil) .nil) (.cons (.ret (.bi .all (.cons (.comp [1, 2] (.tup [1, 2]) (.zip (.var 0) (.slice (.var 0) (.some (.cst (.int 1))) .none)) .nil (.or (.cmp .eq (.sub (.var 1) (.cst (.int 0))) (.glb s_BOX (.str s_box))) (.cmp .eq (.sub (.var 2) (.cst (.int 0))) (.glb s_BOX (.str s_box))))) .nil))) .nil)))⟩
def f_check_paragraph : Fn := ⟨1, [s_paragraph], [], (.cons (.ite (.not (.call s_is_5f_paragraph (.cons (.var 0) .nil))) (.cons (.raise s_NoParagraph) .nil) .nil) .nil)⟩
def f_is_fee : Fn := ⟨1, [s_thing], [], (.cons (.ret (.call s_is_5f_within (.cons (.var 0) (.cons (.cst (.int 0)) (.cons (.glb s_MOST_5f_FEE (.int 1000000)) .nil))))) .nil)⟩
def f_check_fee : Fn := ⟨1, [s_fee], [], (.cons (.ite (.not (.call s_is_5f_fee (.cons (.var 0) .nil))) (.cons (.raise s_NoFee) .nil) .nil) .nil)⟩
def f_raw_places : Fn := ⟨1, [s_paragraph, s_at, s_item], [], (.cons (.ret (.bin .add (.comp [1, 2] (.tup [1, 2]) (.enum (.var 0)) (.cons (.cmp .ne (.sub (.var 2) (.cst (.int 0))) (.glb s_BOX (.str s_box))) .nil) (.var 1)) (.lst (.cons (.bi .len (.cons (.var 0) .nil)) .nil)))) .nil)⟩
def f_raw_wide : Fn := ⟨1, [s_items, s_item], [], (.cons (.ret (.bi .sum (.cons (.comp [1] (.nm 1) (.seq (.var 0)) (.cons (.cmp .isin (.sub (.var 1) (.cst (.int 0))) (.tup (.cons (.glb s_BOX (.str s_box)) (.cons (.glb s_GAP (.str s_gap)) .nil)))) .nil) (.sub (.var 1) (.cst (.int 1)))) .nil))) .nil)⟩
def f_raw_stops : Fn := ⟨1, [s_paragraph, s_at, s_item], [], (.cons (.ret (.comp [1, 2] (.tup [1, 2]) (.enum (.var 0)) (.cons (.cmp .eq (.sub (.var 2) (.cst (.int 0))) (.glb s_STOP (.str s_stop))) .nil) (.var 1))) .nil)⟩
def f_is_breaking_of : Fn := ⟨2, [s_paragraph, s_thing, s_places, s_one, s_other], [], (.cons (.set (.nm 2) (.call s_raw_5f_places (.cons (.var 0) .nil))) (.cons (.ite (.or (.not (.bi .isTuple (.cons (.var 1) .nil))) (.not (.bi .all (.cons (.comp [3] (.nm 3) (.seq (.var 1)) .nil (.call s_is_5f_within (.cons (.var 3) (.cons (.cst (.int 0)) (.cons (.bi .len (.cons (.var 0) .nil)) .nil))))) .nil)))) (.cons (.ret (.cst (.bool false))) .nil) .nil) (.cons (.ite (.or (.cmp .eq (.bi .len (.cons (.var 1) .nil)) (.cst (.int 0))) (.or (.cmp .ne (.sub (.var 1) (.neg (.cst (.int 1)))) (.sub (.var 2) (.neg (.cst (.int 1))))) (.not (.bi .all (.cons (.comp [3, 4] (.tup [3, 4]) (.zip (.var 1) (.slice (.var 1) (.some (.cst (.int 1))) .none)) .nil (.cmp .lt (.var 3) (.var 4))) .nil))))) (.cons (.ret (.cst (.bool false))) .nil) .nil) (.cons (.ret (.and (.bi .all (.cons (.comp [3] (.nm 3) (.seq (.var 1)) .nil (.cmp .isin (.var 3) (.var 2))) .nil)) (.bi .all (.cons (.comp [3] (.nm 3) (.seq (.call s_raw_5f_stops (.cons (.var 0) .nil))) .nil (.cmp .isin (.var 3) (.var 1))) .nil)))) .nil))))⟩
def f_ends_of : Fn := ⟨1, [s_breaking], [], (.cons (.ret (.zipl (.bin .add (.tup (.cons (.neg (.cst (.int 1))) .nil)) (.var 0)) (.var 0))) .nil)⟩
def f_line_width : Fn := ⟨3, [s_paragraph, s_one, s_other, s_hyphen], [], (.cons (.set (.nm 3) (.cst (.int 0))) (.cons (.ite (.and (.cmp .lt (.var 2) (.bi .len (.cons (.var 0) .nil))) (.cmp .eq (.sub (.sub (.var 0) (.var 2)) (.cst (.int 0))) (.glb s_CUT (.str s_cut)))) (.cons (.set (.nm 3) (.sub (.sub (.var 0) (.var 2)) (.cst (.int 1)))) .nil) .nil) (.cons (.ret (.bin .add (.call s_raw_5f_wide (.cons (.slice (.var 0) (.some (.bin .add (.var 1) (.cst (.int 1)))) (.some (.var 2))) .nil)) (.var 3))) .nil)))⟩
def f_raw_fee : Fn := ⟨2, [s_paragraph, s_place, s_is_5f_cut], [], (.cons (.set (.nm 2) (.and (.cmp .lt (.var 1) (.bi .len (.cons (.var 0) .nil))) (.cmp .eq (.sub (.sub (.var 0) (.var 1)) (.cst (.int 0))) (.glb s_CUT (.str s_cut))))) (.cons (.ret (.ite (.var 2) (.sub (.sub (.var 0) (.var 1)) (.cst (.int 2))) (.cst (.int 0)))) .nil))⟩
def f_is_free_end : Fn := ⟨2, [s_paragraph, s_place], [], (.cons (.ret (.or (.cmp .eq (.var 1) (.bi .len (.cons (.var 0) .nil))) (.cmp .eq (.sub (.sub (.var 0) (.var 1)) (.cst (.int 0))) (.glb s_STOP (.str s_stop))))) .nil)⟩
def f_has_stop : Fn := ⟨3, [s_paragraph, s_one, s_other, s_item], [], (.cons (.ret (.bi .any (.cons (.comp [3] (.nm 3) (.seq (.slice (.var 0) (.some (.bin .add (.var 1) (.cst (.int 1)))) (.some (.var 2)))) .nil (.cmp .eq (.sub (.var 3) (.cst (.int 0))) (.glb s_STOP (.str s_stop)))) .nil))) .nil)⟩
def f_raw_lines : Fn := ⟨1, [s_paragraph, s_places, s_found, s_at, s_one, s_other], [], (.cons (.par [1, 2] (.cons (.call s_raw_5f_places (.cons (.var 0) .nil)) (.cons (.lst .nil) .nil))) (.cons (.for (.tup [3, 4]) (.enum (.bin .add (.lst (.cons (.neg (.cst (.int 1))) .nil)) (.var 1))) (.cons (.for (.nm 5) (.seq (.slice (.var 1) (.some (.var 3)) .none)) (.cons (.ite (.not (.call s_has_5f_stop (.cons (.var 0) (.cons (.var 4) (.cons (.var 5) .nil))))) (.cons (.app 2 (.tup (.cons (.var 4) (.cons (.var 5) (.cons (.call s_line_5f_width (.cons (.var 0) (.cons (.var 4) (.cons (.var 5) .nil)))) .nil))))) .nil) .nil) .nil)) .nil)) (.cons (.ret (.var 2)) .nil)))⟩
def f_raw_goes : Fn := ⟨3, [s_paragraph, s_breaking, s_w, s_one, s_other], [], (.cons (.ret (.bi .all (.cons (.comp [3, 4] (.tup [3, 4]) (.seq (.call s_ends_5f_of (.cons (.var 1) .nil))) .nil (.cmp .le (.call s_line_5f_width (.cons (.var 0) (.cons (.var 3) (.cons (.var 4) .nil)))) (.var 2))) .nil))) .nil)⟩
def f_line_lack : Fn := ⟨4, [s_paragraph, s_one, s_other, s_w], [], (.cons (.ret (.ite (.call s_is_5f_free_5f_end (.cons (.var 0) (.cons (.var 2) .nil))) (.cst (.int 0)) (.bin .sub (.var 3) (.call s_line_5f_width (.cons (.var 0) (.cons (.var 1) (.cons (.var 2) .nil))))))) .nil)⟩
def f_line_cost : Fn := ⟨5, [s_paragraph, s_fee, s_one, s_other, s_w, s_lack], [], (.cons (.set (.nm 5) (.call s_line_5f_lack (.cons (.var 0) (.cons (.var 2) (.cons (.var 3) (.cons (.var 4) .nil)))))) (.cons (.ret (.bin .add (.bin .add (.bin .mul (.var 5) (.var 5)) (.call s_raw_5f_fee (.cons (.var 0) (.cons (.var 3) .nil)))) (.var 1))) .nil))⟩
def f_raw_cost : Fn := ⟨4, [s_paragraph, s_fee, s_breaking, s_w, s_one, s_other], [], (.cons (.ite (.not (.call s_raw_5f_goes (.cons (.var 0) (.cons (.var 2) (.cons (.var 3) .nil))))) (.cons (.ret (.cst .none)) .nil) .nil) (.cons (.ret (.bi .sum (.cons (.comp [4, 5] (.tup [4, 5]) (.seq (.call s_ends_5f_of (.cons (.var 2) .nil))) .nil (.call s_line_5f_cost (.cons (.var 0) (.cons (.var 1) (.cons (.var 4) (.cons (.var 5) (.cons (.var 3) .nil))))))) .nil))) .nil))⟩
def f_cost_of : Fn := ⟨4, [s_paragraph, s_fee, s_breaking, s_w], [], (.cons (.expr (.call s_check_5f_paragraph (.cons (.var 0) .nil))) (.cons (.expr (.call s_check_5f_fee (.cons (.var 1) .nil))) (.cons (.ite (.not (.call s_is_5f_breaking_5f_of (.cons (.var 0) (.cons (.var 2) .nil)))) (.cons (.raise s_NoBreaking) .nil) .nil) (.cons (.expr (.call s_check_5f_measure (.cons (.var 3) .nil))) (.cons (.ret (.call s_raw_5f_cost (.cons (.var 0) (.cons (.var 1) (.cons (.var 2) (.cons (.var 3) .nil)))))) .nil)))))⟩
def f_check_asked : Fn := ⟨3, [s_paragraph, s_fee, s_w], [], (.cons (.expr (.call s_check_5f_paragraph (.cons (.var 0) .nil))) (.cons (.expr (.call s_check_5f_fee (.cons (.var 1) .nil))) (.cons (.expr (.call s_check_5f_measure (.cons (.var 2) .nil))) .nil)))⟩
def f_lines_within : Fn := ⟨2, [s_paragraph, s_w, s_one, s_other, s_wide], [], (.cons (.ret (.bi .sorted (.cons (.comp [2, 3, 4] (.tup [2, 3, 4]) (.seq (.call s_raw_5f_lines (.cons (.var 0) .nil))) (.cons (.cmp .le (.var 4) (.var 1)) .nil) (.tup (.cons (.var 2) (.cons (.var 3) .nil)))) .nil))) .nil)⟩
def f_costs_ahead : Fn := ⟨3, [s_paragraph, s_fee, s_w, s_found, s_one, s_other, s_here], [], (.cons (.set (.nm 3) (.disp1 (.neg (.cst (.int 1))) (.cst (.int 0)))) (.cons (.for (.tup [4, 5]) (.seq (.call s_lines_5f_within (.cons (.var 0) (.cons (.var 2) .nil)))) (.cons (.ite (.cmp .isin (.var 4) (.var 3)) (.cons (.set (.nm 6) (.bin .add (.sub (.var 3) (.var 4)) (.call s_line_5f_cost (.cons (.var 0) (.cons (.var 1) (.cons (.var 4) (.cons (.var 5) (.cons (.var 2) .nil)))))))) (.cons (.setSub 3 (.var 5) (.bi .min2 (.cons (.get2 3 (.var 5) (.var 6)) (.cons (.var 6) .nil)))) .nil)) .nil) .nil)) (.cons (.ret (.var 3)) .nil)))⟩
def f_costs_behind : Fn := ⟨3, [s_paragraph, s_fee, s_w, s_found, s_one, s_other, s_here], [], (.cons (.set (.nm 3) (.disp1 (.bi .len (.cons (.var 0) .nil)) (.cst (.int 0)))) (.cons (.for (.tup [4, 5]) (.seq (.rev (.call s_lines_5f_within (.cons (.var 0) (.cons (.var 2) .nil))))) (.cons (.ite (.cmp .isin (.var 5) (.var 3)) (.cons (.set (.nm 6) (.bin .add (.sub (.var 3) (.var 5)) (.call s_line_5f_cost (.cons (.var 0) (.cons (.var 1) (.cons (.var 4) (.cons (.var 5) (.cons (.var 2) .nil)))))))) (.cons (.setSub 3 (.var 4) (.bi .min2 (.cons (.get2 3 (.var 4) (.var 6)) (.cons (.var 6) .nil)))) .nil)) .nil) .nil)) (.cons (.ret (.var 3)) .nil)))⟩
def f_least_breaking : Fn := ⟨4, [s_paragraph, s_fee, s_w, s_behind, s_lines, s_found, s_here, s_some, s_one, s_other], [], (.cons (.par [4, 5] (.cons (.call s_lines_5f_within (.cons (.var 0) (.cons (.var 2) .nil))) (.cons (.lst (.cons (.neg (.cst (.int 1))) .nil)) .nil))) (.cons (.while (.cmp .ne (.sub (.var 5) (.neg (.cst (.int 1)))) (.bi .len (.cons (.var 0) .nil))) (.cons (.set (.nm 6) (.sub (.var 5) (.neg (.cst (.int 1))))) (.cons (.set (.nm 7) (.comp [8, 9] (.tup [8, 9]) (.seq (.var 4)) (.cons (.and (.cmp .eq (.var 8) (.var 6)) (.cmp .isin (.var 9) (.var 3))) .nil) (.var 9))) (.cons (.app 5 (.sub (.comp [9] (.nm 9) (.seq (.var 7)) (.cons (.cmp .eq (.bin .add (.call s_line_5f_cost (.cons (.var 0) (.cons (.var 1) (.cons (.var 6) (.cons (.var 9) (.cons (.var 2) .nil)))))) (.sub (.var 3) (.var 9))) (.sub (.var 3) (.var 6))) .nil) (.var 9)) (.cst (.int 0)))) .nil)))) (.cons (.ret (.bi .tuple (.cons (.slice (.var 5) (.some (.cst (.int 1))) .none) .nil))) .nil)))⟩
def f_come_to : Fn := ⟨2, [s_paragraph, s_w, s_place], [], (.cons (.ret (.bi .sorted (.cons (.comp [2] (.nm 2) (.keys (.call s_costs_5f_ahead (.cons (.var 0) (.cons (.cst (.int 0)) (.cons (.var 1) .nil))))) (.cons (.cmp .ge (.var 2) (.cst (.int 0))) .nil) (.var 2)) .nil))) .nil)⟩
def f_raw_best : Fn := ⟨3, [s_paragraph, s_fee, s_w, s_behind], [], (.cons (.set (.nm 3) (.call s_costs_5f_behind (.cons (.var 0) (.cons (.var 1) (.cons (.var 2) .nil))))) (.cons (.ite (.cmp .notin (.neg (.cst (.int 1))) (.var 3)) (.cons (.ret (.tup (.cons (.glb s_NARROW (.str s_narrow)) (.cons (.bi .tuple (.cons (.call s_come_5f_to (.cons (.var 0) (.cons (.var 2) .nil))) .nil)) .nil)))) .nil) .nil) (.cons (.ret (.tup (.cons (.glb s_BEST (.str s_best)) (.cons (.sub (.var 3) (.neg (.cst (.int 1)))) (.cons (.call s_least_5f_breaking (.cons (.var 0) (.cons (.var 1) (.cons (.var 2) (.cons (.var 3) .nil))))) .nil))))) .nil)))⟩
def f_best_told : Fn := ⟨3, [s_paragraph, s_fee, s_w], [], (.cons (.expr (.call s_check_5f_asked (.cons (.var 0) (.cons (.var 1) (.cons (.var 2) .nil))))) (.cons (.ret (.call s_raw_5f_best (.cons (.var 0) (.cons (.var 1) (.cons (.var 2) .nil))))) .nil))⟩
def f_item_text : Fn := ⟨1, [s_item, s_one], [], (.cons (.ret (.bin .add (.gdict s_SIGNS (.sub (.var 0) (.cst (.int 0))) [(.inr s_box, (.str s_b)), (.inr s_gap, (.str s_g)), (.inr s_cut, (.str s_c)), (.inr s_stop, (.str s_s))]) (.join (some s_BAR) s__2f_ (.comp [1] (.nm 1) (.seq (.slice (.var 0) (.some (.cst (.int 1))) .none)) .nil (.bi .str (.cons (.var 1) .nil)))))) .nil)⟩
def f_items_line : Fn := ⟨3, [s_paragraph, s_one, s_other, s_item], [], (.cons (.ret (.join none s__20_ (.comp [3] (.nm 3) (.seq (.slice (.var 0) (.some (.bin .add (.var 1) (.cst (.int 1)))) (.some (.bin .add (.var 2) (.cst (.int 1)))))) .nil (.call s_item_5f_text (.cons (.var 3) .nil))))) .nil)⟩
def f_line_report : Fn := ⟨4, [s_paragraph, s_fee, s_pair, s_w, s_one, s_other, s_numbers, s_number], [], (.cons (.set (.tup [4, 5]) (.var 2)) (.cons (.set (.nm 6) (.lst (.cons (.call s_line_5f_width (.cons (.var 0) (.cons (.var 4) (.cons (.var 5) .nil)))) (.cons (.call s_line_5f_lack (.cons (.var 0) (.cons (.var 4) (.cons (.var 5) (.cons (.var 3) .nil))))) .nil)))) (.cons (.app 6 (.call s_line_5f_cost (.cons (.var 0) (.cons (.var 1) (.cons (.var 4) (.cons (.var 5) (.cons (.var 3) .nil))))))) (.cons (.ret (.bin .add (.bin .add (.join none s__20_ (.comp [7] (.nm 7) (.seq (.var 6)) .nil (.bi .str (.cons (.var 7) .nil)))) (.cst (.str s__3a__20_))) (.call s_items_5f_line (.cons (.var 0) (.cons (.var 4) (.cons (.var 5) .nil)))))) .nil))))⟩
def f_raw_breaking_report : Fn := ⟨4, [s_paragraph, s_fee, s_breaking, s_w, s_pairs, s_total, s_rows, s_one, s_other, s_pair], [], (.cons (.set (.nm 4) (.call s_ends_5f_of (.cons (.var 2) .nil))) (.cons (.set (.nm 5) (.bi .sum (.cons (.comp [7, 8] (.tup [7, 8]) (.seq (.var 4)) .nil (.call s_line_5f_cost (.cons (.var 0) (.cons (.var 1) (.cons (.var 7) (.cons (.var 8) (.cons (.var 3) .nil))))))) .nil))) (.cons (.set (.nm 6) (.comp [9] (.nm 9) (.seq (.var 4)) .nil (.call s_line_5f_report (.cons (.var 0) (.cons (.var 1) (.cons (.var 9) (.cons (.var 3) .nil))))))) (.cons (.ret (.bin .add (.var 6) (.lst (.cons (.bin .add (.bin .add (.bin .add (.cst (.str s_all_20_)) (.bi .str (.cons (.bi .len (.cons (.var 4) .nil)) .nil))) (.cst (.str s__20_))) (.bi .str (.cons (.var 5) .nil))) .nil)))) .nil))))⟩
def f_breaking_report : Fn := ⟨4, [s_paragraph, s_fee, s_breaking, s_w], [], (.cons (.expr (.call s_check_5f_asked (.cons (.var 0) (.cons (.var 1) (.cons (.var 3) .nil))))) (.cons (.ite (.not (.call s_is_5f_breaking_5f_of (.cons (.var 0) (.cons (.var 2) .nil)))) (.cons (.raise s_NoBreaking) .nil) .nil) (.cons (.ret (.ite (.call s_raw_5f_goes (.cons (.var 0) (.cons (.var 2) (.cons (.var 3) .nil)))) (.bi .tuple (.cons (.call s_raw_5f_breaking_5f_report (.cons (.var 0) (.cons (.var 1) (.cons (.var 2) (.cons (.var 3) .nil))))) .nil)) (.cst .none))) .nil)))⟩
def f_best_report : Fn := ⟨3, [s_paragraph, s_fee, s_w, s_told, s_places, s_place], [], (.cons (.expr (.call s_check_5f_asked (.cons (.var 0) (.cons (.var 1) (.cons (.var 2) .nil))))) (.cons (.set (.nm 3) (.call s_raw_5f_best (.cons (.var 0) (.cons (.var 1) (.cons (.var 2) .nil))))) (.cons (.ite (.cmp .eq (.sub (.var 3) (.cst (.int 0))) (.glb s_BEST (.str s_best))) (.cons (.ret (.bi .tuple (.cons (.call s_raw_5f_breaking_5f_report (.cons (.var 0) (.cons (.var 1) (.cons (.sub (.var 3) (.cst (.int 2))) (.cons (.var 2) .nil))))) .nil))) .nil) .nil) (.cons (.set (.nm 4) (.ite (.cmp .gt (.bi .len (.cons (.sub (.var 3) (.cst (.int 1))) .nil)) (.cst (.int 0))) (.join none s__20_ (.comp [5] (.nm 5) (.seq (.sub (.var 3) (.cst (.int 1)))) .nil (.bi .str (.cons (.var 5) .nil)))) (.glb s_NOTHING (.str s__2d_)))) (.cons (.ret (.tup (.cons (.bin .add (.cst (.str s_narrow_20_)) (.var 4)) .nil))) .nil)))))⟩
def f__law_hand : Fn := ⟨1, [s_script, s_cells, s_cell], [], (.cons (.set (.nm 1) (.comp [2] (.nm 2) (.seq (.slice (.var 0) .none (.some (.cst (.int 63))))) .nil (.bin .mod (.bi .int (.cons (.bi .abs (.cons (.bi .int (.cons (.var 2) .nil)) .nil)) .nil)) (.bin .pow (.cst (.int 10)) (.cst (.int 36)))))) (.cons (.ret (.lst (.cons (.var 1) (.cons (.cst (.int 0)) (.cons (.cst (.int 0)) (.cons (.bin .add (.cst (.int 8801)) (.bin .mul (.cst (.int 13)) (.bi .len (.cons (.var 1) .nil)))) (.cons (.cst (.int 0)) .nil))))))) .nil))⟩
def f__law_draw : Fn := ⟨2, [s_hand, s_many, s_cell, s_digit, s_number], [], (.cons (.ite (.and (.cmp .eq (.sub (.var 0) (.cst (.int 2))) (.cst (.int 0))) (.cmp .lt (.sub (.var 0) (.cst (.int 1))) (.bi .len (.cons (.sub (.var 0) (.cst (.int 0))) .nil)))) (.cons (.set (.nm 2) (.sub (.sub (.var 0) (.cst (.int 0))) (.sub (.var 0) (.cst (.int 1))))) (.cons (.setSub 0 (.cst (.int 1)) (.bin .add (.sub (.var 0) (.cst (.int 1))) (.cst (.int 1)))) (.cons (.setSub 0 (.cst (.int 3)) (.bin .mod (.bi .int (.cons (.bin .add (.bin .add (.bin .mul (.sub (.var 0) (.cst (.int 3))) (.cst (.int 69621))) (.bin .mul (.var 2) (.cst (.int 48271)))) (.cst (.int 57))) .nil)) (.cst (.int 2147483629)))) (.cons (.ite (.cmp .ge (.var 2) (.bin .pow (.cst (.int 10)) (.cst (.int 18)))) (.cons (.setSub 0 (.cst (.int 2)) (.var 2)) .nil) .nil) .nil)))) .nil) (.cons (.ite (.cmp .gt (.sub (.var 0) (.cst (.int 2))) (.cst (.int 0))) (.cons (.set (.nm 3) (.bin .mod (.bi .int (.cons (.sub (.var 0) (.cst (.int 2))) .nil)) (.var 1))) (.cons (.setSub 0 (.cst (.int 2)) (.bin .fdiv (.sub (.var 0) (.cst (.int 2))) (.var 1))) (.cons (.ret (.var 3)) .nil))) .nil) (.cons (.setSub 0 (.cst (.int 4)) (.bin .add (.sub (.var 0) (.cst (.int 4))) (.cst (.int 1)))) (.cons (.set (.nm 4) (.bin .mod (.bi .int (.cons (.bin .mul (.bi .int (.cons (.bin .add (.sub (.var 0) (.cst (.int 3))) (.bin .mul (.cst (.int 7919)) (.sub (.var 0) (.cst (.int 4))))) .nil)) (.cst (.int 48271))) .nil)) (.cst (.int 2147483647)))) (.cons (.set (.nm 4) (.bin .mod (.bi .int (.cons (.bin .mul (.var 4) (.bin .add (.bin .fdiv (.var 4) (.cst (.int 1009))) (.cst (.int 69621)))) .nil)) (.cst (.int 2147483647)))) (.cons (.set (.nm 4) (.bin .mod (.bi .int (.cons (.bin .mul (.var 4) (.bin .add (.bin .fdiv (.var 4) (.cst (.int 2003))) (.cst (.int 40014)))) .nil)) (.cst (.int 2147483563)))) (.cons (.ret (.bin .mod (.bi .int (.cons (.bin .fdiv (.var 4) (.cst (.int 16))) .nil)) (.var 1))) .nil)))))))⟩
def f__law_any : Fn := ⟨2, [s_hand, s_some], [], (.cons (.ret (.sub (.var 1) (.call s__5f_law_5f_draw (.cons (.var 0) (.cons (.bi .len (.cons (.var 1) .nil)) .nil))))) .nil)⟩
def f__law_paragraph : Fn := ⟨1, [s_hand, s_found, s_turn, s_kind, s_between], [], (.cons (.set (.nm 1) (.lst (.cons (.tup (.cons (.cst (.str s_box)) (.cons (.bin .add (.cst (.int 1)) (.call s__5f_law_5f_draw (.cons (.var 0) (.cons (.cst (.int 6)) .nil)))) .nil))) .nil))) (.cons (.for (.nm 2) (.range1 (.call s__5f_law_5f_draw (.cons (.var 0) (.cons (.cst (.int 5)) .nil)))) (.cons (.set (.nm 3) (.call s__5f_law_5f_draw (.cons (.var 0) (.cons (.cst (.int 5)) .nil)))) (.cons (.ite (.cmp .gt (.var 3) (.cst (.int 0))) (.cons (.set (.nm 4) (.lst (.cons (.tup (.cons (.cst (.str s_gap)) (.cons (.call s__5f_law_5f_draw (.cons (.var 0) (.cons (.cst (.int 4)) .nil))) .nil))) (.cons (.tup (.cons (.cst (.str s_cut)) (.cons (.call s__5f_law_5f_draw (.cons (.var 0) (.cons (.cst (.int 3)) .nil))) (.cons (.call s__5f_law_5f_draw (.cons (.var 0) (.cons (.cst (.int 9)) .nil))) .nil)))) (.cons (.tup (.cons (.cst (.str s_stop)) .nil)) .nil))))) (.cons (.app 1 (.call s__5f_law_5f_any (.cons (.var 0) (.cons (.var 4) .nil)))) .nil)) .nil) (.cons (.app 1 (.tup (.cons (.cst (.str s_box)) (.cons (.bin .add (.cst (.int 1)) (.call s__5f_law_5f_draw (.cons (.var 0) (.cons (.cst (.int 6)) .nil)))) .nil)))) .nil)))) (.cons (.ret (.bi .tuple (.cons (.var 1) .nil))) .nil)))⟩
def f__law_item : Fn := ⟨1, [s_item], [], (.cons (.ite (.cmp .eq (.sub (.var 0) (.cst (.int 0))) (.cst (.str s_cut))) (.cons (.ret (.bin .add (.bin .add (.bin .add (.cst (.str s_c)) (.bi .str (.cons (.sub (.var 0) (.cst (.int 1))) .nil))) (.cst (.str s__2f_))) (.bi .str (.cons (.sub (.var 0) (.cst (.int 2))) .nil)))) .nil) .nil) (.cons (.ret (.ite (.cmp .eq (.sub (.var 0) (.cst (.int 0))) (.cst (.str s_stop))) (.cst (.str s_s)) (.bin .add (.sub (.sub (.var 0) (.cst (.int 0))) (.cst (.int 0))) (.bi .str (.cons (.sub (.var 0) (.cst (.int 1))) .nil))))) .nil))⟩
def f__law_breaking : Fn := ⟨2, [s_hand, s_paragraph, s_found, s_at, s_item], [], (.cons (.set (.nm 2) (.lst .nil)) (.cons (.for (.tup [3, 4]) (.enum (.var 1)) (.cons (.ite (.or (.cmp .eq (.sub (.var 4) (.cst (.int 0))) (.cst (.str s_stop))) (.and (.cmp .isin (.sub (.var 4) (.cst (.int 0))) (.tup (.cons (.cst (.str s_gap)) (.cons (.cst (.str s_cut)) .nil)))) (.cmp .eq (.call s__5f_law_5f_draw (.cons (.var 0) (.cons (.cst (.int 2)) .nil))) (.cst (.int 0))))) (.cons (.app 2 (.var 3)) .nil) .nil) .nil)) (.cons (.ret (.bi .tuple (.cons (.bin .add (.var 2) (.lst (.cons (.bi .len (.cons (.var 1) .nil)) .nil))) .nil))) .nil)))⟩
def f__law_report : Fn := ⟨4, [s_paragraph, s_fee, s_breaking, s_w, s_rows, s_begin, s_whole, s_place, s_items, s_end, s_wide, s_lack, s_cost, s_words, s_item], [], (.cons (.par [4, 5, 6] (.cons (.lst .nil) (.cons (.cst (.int 0)) (.cons (.cst (.int 0)) .nil)))) (.cons (.for (.nm 7) (.seq (.var 2)) (.cons (.set (.nm 8) (.bi .list (.cons (.slice (.var 0) (.some (.var 5)) (.some (.var 7))) .nil))) (.cons (.set (.nm 9) (.ite (.cmp .lt (.var 7) (.bi .len (.cons (.var 0) .nil))) (.sub (.var 0) (.var 7)) (.cst .none))) (.cons (.set (.nm 10) (.bi .sum (.cons (.comp [14] (.nm 14) (.seq (.var 8)) (.cons (.cmp .isin (.sub (.var 14) (.cst (.int 0))) (.tup (.cons (.cst (.str s_box)) (.cons (.cst (.str s_gap)) .nil)))) .nil) (.sub (.var 14) (.cst (.int 1)))) .nil))) (.cons (.set (.nm 10) (.bin .add (.var 10) (.ite (.and (.cmp .notNone (.var 9) (.cst .none)) (.cmp .eq (.sub (.var 9) (.cst (.int 0))) (.cst (.str s_cut)))) (.sub (.var 9) (.cst (.int 1))) (.cst (.int 0))))) (.cons (.ite (.cmp .gt (.var 10) (.var 3)) (.cons (.ret (.cst .none)) .nil) .nil) (.cons (.set (.nm 11) (.ite (.or (.cmp .isNone (.var 9) (.cst .none)) (.cmp .eq (.sub (.var 9) (.cst (.int 0))) (.cst (.str s_stop)))) (.cst (.int 0)) (.bin .sub (.var 3) (.var 10)))) (.cons (.set (.nm 12) (.bin .add (.bin .add (.bin .mul (.var 11) (.var 11)) (.var 1)) (.ite (.and (.cmp .notNone (.var 9) (.cst .none)) (.cmp .eq (.sub (.var 9) (.cst (.int 0))) (.cst (.str s_cut)))) (.sub (.var 9) (.cst (.int 2))) (.cst (.int 0))))) (.cons (.set (.nm 13) (.comp [14] (.nm 14) (.seq (.bin .add (.var 8) (.ite (.cmp .isNone (.var 9) (.cst .none)) (.lst .nil) (.lst (.cons (.var 9) .nil))))) .nil (.call s__5f_law_5f_item (.cons (.var 14) .nil)))) (.cons (.app 4 (.join none s__20_ (.bin .add (.lst (.cons (.bi .str (.cons (.var 10) .nil)) (.cons (.bi .str (.cons (.var 11) .nil)) (.cons (.bin .add (.bi .str (.cons (.var 12) .nil)) (.cst (.str s__3a_))) .nil)))) (.var 13)))) (.cons (.par [5, 6] (.cons (.bin .add (.var 7) (.cst (.int 1))) (.cons (.bin .add (.var 6) (.var 12)) .nil))) .nil))))))))))) (.cons (.ret (.bi .tuple (.cons (.bin .add (.var 4) (.lst (.cons (.bin .add (.bin .add (.bin .add (.cst (.str s_all_20_)) (.bi .str (.cons (.bi .len (.cons (.var 2) .nil)) .nil))) (.cst (.str s__20_))) (.bi .str (.cons (.var 6) .nil))) .nil))) .nil))) .nil)))⟩
def f__law_right : Fn := ⟨1, [s_hand, s_paragraph, s_fee, s_w, s_breaking, s_due, s_cost, s_told, s_words, s_bad, s_odd, s_off, s_none, s_said, s_place], [], (.cons (.par [1, 2, 3] (.cons (.call s__5f_law_5f_paragraph (.cons (.var 0) .nil)) (.cons (.call s__5f_law_5f_any (.cons (.var 0) (.cons (.lst (.cons (.cst (.int 0)) (.cons (.cst (.int 1)) (.cons (.cst (.int 20)) .nil)))) .nil))) (.cons (.call s__5f_law_5f_draw (.cons (.var 0) (.cons (.cst (.int 25)) .nil))) .nil)))) (.cons (.set (.nm 4) (.call s__5f_law_5f_breaking (.cons (.var 0) (.cons (.var 1) .nil)))) (.cons (.set (.nm 5) (.call s__5f_law_5f_report (.cons (.var 1) (.cons (.var 2) (.cons (.var 4) (.cons (.var 3) .nil)))))) (.cons (.ite (.cmp .ne (.call s_breaking_5f_report (.cons (.var 1) (.cons (.var 2) (.cons (.var 4) (.cons (.var 3) .nil))))) (.var 5)) (.cons (.ret (.cst (.bool false))) .nil) .nil) (.cons (.set (.nm 6) (.call s_cost_5f_of (.cons (.var 1) (.cons (.var 2) (.cons (.var 4) (.cons (.var 3) .nil)))))) (.cons (.ite (.or (.cmp .ne (.cmp .isNone (.var 5) (.cst .none)) (.cmp .isNone (.var 6) (.cst .none))) (.and (.cmp .notNone (.var 5) (.cst .none)) (.cmp .ne (.sub (.split s__20_ (.sub (.var 5) (.neg (.cst (.int 1))))) (.cst (.int 2))) (.bi .str (.cons (.var 6) .nil))))) (.cons (.ret (.cst (.bool false))) .nil) .nil) (.cons (.set (.nm 7) (.call s_best_5f_told (.cons (.var 1) (.cons (.var 2) (.cons (.var 3) .nil))))) (.cons (.ite (.cmp .eq (.sub (.var 7) (.cst (.int 0))) (.cst (.str s_best))) (.cons (.ite (.cmp .ne (.call s_best_5f_report (.cons (.var 1) (.cons (.var 2) (.cons (.var 3) .nil)))) (.call s__5f_law_5f_report (.cons (.var 1) (.cons (.var 2) (.cons (.sub (.var 7) (.cst (.int 2))) (.cons (.var 3) .nil)))))) (.cons (.ret (.cst (.bool false))) .nil) .nil) .nil) (.cons (.set (.nm 8) (.join none s__20_ (.comp [14] (.nm 14) (.seq (.sub (.var 7) (.cst (.int 1)))) .nil (.bi .str (.cons (.var 14) .nil))))) (.cons (.ite (.cmp .ne (.call s_best_5f_report (.cons (.var 1) (.cons (.var 2) (.cons (.var 3) .nil)))) (.tup (.cons (.bin .add (.cst (.str s_narrow_20_)) (.ite (.cmp .ne (.var 8) (.cst (.str s_))) (.var 8) (.cst (.str s__2d_)))) .nil))) (.cons (.ret (.cst (.bool false))) .nil) .nil) .nil))) (.cons (.set (.nm 9) (.call s__5f_law_5f_any (.cons (.var 0) (.cons (.lst (.cons (.cst .none) (.cons (.tup .nil) (.cons (.lst (.cons (.tup (.cons (.cst (.str s_box)) (.cons (.cst (.int 1)) .nil))) .nil)) (.cons (.tup (.cons (.tup (.cons (.cst (.str s_gap)) (.cons (.cst (.int 1)) .nil))) .nil)) .nil))))) .nil)))) (.cons (.set (.nm 10) (.call s__5f_law_5f_any (.cons (.var 0) (.cons (.lst (.cons (.cst .none) (.cons (.tup .nil) (.cons (.bi .list (.cons (.var 4) .nil)) (.cons (.bin .add (.var 4) (.tup (.cons (.cst (.int 99)) .nil))) .nil))))) .nil)))) (.cons (.par [11, 12] (.cons (.call s__5f_law_5f_any (.cons (.var 0) (.cons (.lst (.cons (.cst .none) (.cons (.neg (.cst (.int 1))) (.cons (.cst (.bool true)) (.cons (.cst (.str s_1)) .nil))))) .nil))) (.cons (.call s__5f_law_5f_any (.cons (.var 0) (.cons (.lst (.cons (.cst .none) (.cons (.neg (.cst (.int 1))) (.cons (.cst (.bool true)) (.cons (.bin .add (.bin .pow (.cst (.int 10)) (.cst (.int 6))) (.cst (.int 1))) .nil))))) .nil))) .nil))) (.cons (.set (.nm 13) (.lst (.cons (.said s__5f_law_5f_said saidT (.call s_breaking_5f_report (.cons (.var 9) (.cons (.var 12) (.cons (.var 10) (.cons (.var 11) .nil)))))) .nil))) (.cons (.app 13 (.said s__5f_law_5f_said saidT (.call s_breaking_5f_report (.cons (.var 1) (.cons (.var 12) (.cons (.var 10) (.cons (.var 11) .nil))))))) (.cons (.app 13 (.said s__5f_law_5f_said saidT (.call s_best_5f_report (.cons (.var 1) (.cons (.var 2) (.cons (.var 11) .nil)))))) (.cons (.app 13 (.said s__5f_law_5f_said saidT (.call s_breaking_5f_report (.cons (.var 1) (.cons (.var 2) (.cons (.var 10) (.cons (.var 3) .nil))))))) (.cons (.ret (.cmp .eq (.var 13) (.lst (.cons (.cst (.str s_paragraph)) (.cons (.cst (.str s_fee)) (.cons (.cst (.str s_measure)) (.cons (.cst (.str s_breaking)) .nil))))))) .nil))))))))))))))))⟩
def f_law : Fn := ⟨1, [s_script, s_hand, s_paragraph, s_turn], [], (.cons (.set (.nm 1) (.call s__5f_law_5f_hand (.cons (.var 0) .nil))) (.cons (.set (.nm 2) (.tup (.cons (.tup (.cons (.cst (.str s_box)) (.cons (.cst (.int 3)) .nil))) (.cons (.tup (.cons (.cst (.str s_gap)) (.cons (.cst (.int 1)) .nil))) (.cons (.tup (.cons (.cst (.str s_box)) (.cons (.cst (.int 2)) .nil))) (.cons (.tup (.cons (.cst (.str s_cut)) (.cons (.cst (.int 1)) (.cons (.cst (.int 7)) .nil)))) (.cons (.tup (.cons (.cst (.str s_box)) (.cons (.cst (.int 4)) .nil))) .nil))))))) (.cons (.ite (.cmp .ne (.call s_breaking_5f_report (.cons (.var 2) (.cons (.cst (.int 2)) (.cons (.tup (.cons (.cst (.int 3)) (.cons (.cst (.int 5)) .nil))) (.cons (.cst (.int 8)) .nil))))) (.tup (.cons (.cst (.str s_7_20_1_20_10_3a__20_b3_20_g1_20_b2_20_c1_2f_7)) (.cons (.cst (.str s_4_20_0_20_2_3a__20_b4)) (.cons (.cst (.str s_all_20_2_20_12)) .nil))))) (.cons (.ret (.cst (.bool false))) .nil) .nil) (.cons (.ite (.cmp .ne (.call s_best_5f_report (.cons (.tup (.cons (.tup (.cons (.cst (.str s_box)) (.cons (.cst (.int 9)) .nil))) .nil)) (.cons (.cst (.int 0)) (.cons (.cst (.int 5)) .nil)))) (.tup (.cons (.cst (.str s_narrow_20__2d_)) .nil))) (.cons (.ret (.cst (.bool false))) .nil) .nil) (.cons (.ret (.bi .all (.cons (.comp [3] (.nm 3) (.range1 (.cst (.int 5))) .nil (.call s__5f_law_5f_right (.cons (.var 1) .nil))) .nil))) .nil)))))⟩
def tbl : List (Str × Fn) := [(s_is_5f_integer, f_is_integer), (s_is_5f_within, f_is_within), (s_is_5f_number, f_is_number), (s_is_5f_sized, f_is_sized), (s_check_5f_measure, f_check_measure), (s_is_5f_item, f_is_item), (s_is_5f_paragraph, f_is_paragraph), (s_check_5f_paragraph, f_check_paragraph), (s_is_5f_fee, f_is_fee), (s_check_5f_fee, f_check_fee), (s_raw_5f_places, f_raw_places), (s_raw_5f_wide, f_raw_wide), (s_raw_5f_stops, f_raw_stops), (s_is_5f_breaking_5f_of, f_is_breaking_of), (s_ends_5f_of, f_ends_of), (s_line_5f_width, f_line_width), (s_raw_5f_fee, f_raw_fee), (s_is_5f_free_5f_end, f_is_free_end), (s_has_5f_stop, f_has_stop), (s_raw_5f_lines, f_raw_lines), (s_raw_5f_goes, f_raw_goes), (s_line_5f_lack, f_line_lack), (s_line_5f_cost, f_line_cost), (s_raw_5f_cost, f_raw_cost), (s_cost_5f_of, f_cost_of), (s_check_5f_asked, f_check_asked), (s_lines_5f_within, f_lines_within), (s_costs_5f_ahead, f_costs_ahead), (s_costs_5f_behind, f_costs_behind), (s_least_5f_breaking, f_least_breaking), (s_come_5f_to, f_come_to), (s_raw_5f_best, f_raw_best), (s_best_5f_told, f_best_told), (s_item_5f_text, f_item_text), (s_items_5f_line, f_items_line), (s_line_5f_report, f_line_report), (s_raw_5f_breaking_5f_report, f_raw_breaking_report), (s_breaking_5f_report, f_breaking_report), (s_best_5f_report, f_best_report), (s__5f_law_5f_hand, f__law_hand), (s__5f_law_5f_draw, f__law_draw), (s__5f_law_5f_any, f__law_any), (s__5f_law_5f_paragraph, f__law_paragraph), (s__5f_law_5f_item, f__law_item), (s__5f_law_5f_breaking, f__law_breaking), (s__5f_law_5f_report, f__law_report), (s__5f_law_5f_right, f__law_right), (s_law, f_law)]
end Core88

set_option Elab.async false
set_option linter.all false
set_option maxRecDepth 100000
set_option maxHeartbeats 1000000
/-! The plain law of k91: loops; small functions. -/
namespace Pl
open PySem Ev Core88
/-! ### general -/
theorem run_eq {F : Fn} {n : Nat} {f : Str} {as : List Slot} (h : tbl.lookup f = some F) : evF tbl (n + 1) f as = runFn (evF tbl n) F as := by
  show (match lookF tbl f with
    | some F => runFn (evF tbl n) F as
    | none => .stuck) = _
  unfold lookF
  rw [h]
theorem forF_inv {step : D → Sts → Ev.Flow} {I : Nat → Sts → Prop} : ∀ (ds : List D) (k : Nat) (δ : Sts), (∀ i d δ, ds[i]? = some d → I (k + i) δ → ∃ δ', step d δ = .next δ' ∧ I (k + i + 1) δ') → I k δ → ∃ δ', forF step ds δ = .next δ' ∧ I (k + ds.length) δ'
  | [], k, δ, _, h => ⟨δ, rfl, h⟩
  | d :: ds, k, δ, hs, h => by
    obtain ⟨δ1, e1, h1⟩ := hs 0 d δ rfl h
    obtain ⟨δ2, e2, h2⟩ := forF_inv ds (k + 1) δ1 (fun i d' δ' hd hi => by
      have := hs (i + 1) d' δ' (by simpa using hd) (by have e : k + (i + 1) = k + 1 + i := by omega
                                                       rw [e]; exact hi)
      have e : k + (i + 1) + 1 = k + 1 + i + 1 := by omega
      rw [e] at this
      exact this) h1
    refine ⟨δ2, ?_, ?_⟩
    · unfold forF
      rw [e1]
      exact e2
    · have e : k + (d :: ds).length = k + 1 + ds.length := by simp; omega
      rw [e]; exact h2
theorem whileF_inv {test : Sts → Res Bool} {body : Sts → Ev.Flow} {I P : Sts → Prop} {m : Sts → Nat} (hs : ∀ δ, I δ → ∃ b δ1, test δ = .ok b δ1 ∧ (b = false → P δ1) ∧ (b = true → ∃ δ2, body δ1 = .next δ2 ∧ I δ2 ∧ m δ2 < m δ)) :
    ∀ (N : Nat) (δ : Sts), I δ → m δ < N → ∃ δ', whileF test body N δ = .next δ' ∧ P δ'
  | 0, δ, _, h => absurd h (Nat.not_lt_zero _)
  | N + 1, δ, hi, h => by
    obtain ⟨b, δ1, e, h1, h2⟩ := hs δ hi
    cases b with
    | false =>
      refine ⟨δ1, ?_, h1 rfl⟩
      unfold whileF
      rw [e]; rfl
    | true =>
      obtain ⟨δ2, e2, i2, m2⟩ := h2 rfl
      obtain ⟨δ3, e3, p3⟩ := whileF_inv hs N δ2 i2 (by omega)
      refine ⟨δ3, ?_, p3⟩
      unfold whileF
      rw [e]
      show (match body δ1 with
        | .next δ2 => whileF test body N δ2
        | .cnt δ2 => whileF test body N δ2
        | .brk δ2 => .next δ2
        | f => f) = _
      rw [e2]
      exact e3
/-- a comprehension without tests, its turns known -/
theorem compF_map {step : D → Sts → Res (Option D)} {I : Sts → Prop} {g : D → D} : ∀ (ds : List D) (acc : List D) (δ : Sts), (∀ d ∈ ds, ∀ δ, I δ → ∃ δ', step d δ = .ok (some (g d)) δ' ∧ I δ') → I δ → ∃ δ', compF step ds acc δ = .ok (acc ++ ds.map g) δ' ∧ I δ'
  | [], acc, δ, _, h => ⟨δ, by simp [compF], h⟩
  | d :: ds, acc, δ, hs, h => by
    obtain ⟨δ1, e1, h1⟩ := hs d List.mem_cons_self δ h
    obtain ⟨δ2, e2, h2⟩ := compF_map ds (acc ++ [g d]) δ1 (fun d' hd => hs d' (List.mem_cons_of_mem _ hd)) h1
    refine ⟨δ2, ?_, h2⟩
    unfold compF
    rw [e1]
    show compF step ds (acc ++ [g d]) δ1 = _
    rw [e2]
    simp
/-! ### items -/
inductive Item where
  | box (n : Nat)
  | gap (n : Nat)
  | cut (n f : Nat)
  | stop
  deriving DecidableEq
def Item.enc : Item → D
  | .box n => .tuple [.str s_box, .int n]
  | .gap n => .tuple [.str s_gap, .int n]
  | .cut n f => .tuple [.str s_cut, .int n, .int f]
  | .stop => .tuple [.str s_stop]
def par (p : List Item) : D := .tuple (p.map Item.enc)
/-- an item within its bounds -/
def Item.ok : Item → Prop
  | .box n => 1 ≤ n ∧ n ≤ 1000
  | .gap n => n ≤ 1000
  | .cut n f => n ≤ 1000 ∧ f ≤ 1000000
  | .stop => True
theorem nat_beq (a b : Nat) : (((a : Nat) : Int) == ((b : Nat) : Int)) = decide (a = b) := by
  rw [Bool.eq_iff_iff]; simp
  constructor <;> intro h <;> omega
@[simp] theorem ne_box_gap : (s_box = s_gap) = False := by decide
@[simp] theorem ne_box_cut : (s_box = s_cut) = False := by decide
@[simp] theorem ne_box_stop : (s_box = s_stop) = False := by decide
@[simp] theorem ne_gap_box : (s_gap = s_box) = False := by decide
@[simp] theorem ne_gap_cut : (s_gap = s_cut) = False := by decide
@[simp] theorem ne_gap_stop : (s_gap = s_stop) = False := by decide
@[simp] theorem ne_cut_box : (s_cut = s_box) = False := by decide
@[simp] theorem ne_cut_gap : (s_cut = s_gap) = False := by decide
@[simp] theorem ne_cut_stop : (s_cut = s_stop) = False := by decide
@[simp] theorem ne_stop_box : (s_stop = s_box) = False := by decide
@[simp] theorem ne_stop_gap : (s_stop = s_gap) = False := by decide
@[simp] theorem ne_stop_cut : (s_stop = s_cut) = False := by decide
@[simp] theorem ok_box : eqOk (.str s_box) = true := by decide +kernel
@[simp] theorem ok_gap : eqOk (.str s_gap) = true := by decide +kernel
@[simp] theorem ok_cut : eqOk (.str s_cut) = true := by decide +kernel
@[simp] theorem ok_stop : eqOk (.str s_stop) = true := by decide +kernel
@[simp] theorem bq_box_gap : (s_box == s_gap) = false := by decide
@[simp] theorem bq_box_cut : (s_box == s_cut) = false := by decide
@[simp] theorem bq_box_stop : (s_box == s_stop) = false := by decide
@[simp] theorem bq_gap_box : (s_gap == s_box) = false := by decide
@[simp] theorem bq_gap_cut : (s_gap == s_cut) = false := by decide
@[simp] theorem bq_gap_stop : (s_gap == s_stop) = false := by decide
@[simp] theorem bq_cut_box : (s_cut == s_box) = false := by decide
@[simp] theorem bq_cut_gap : (s_cut == s_gap) = false := by decide
@[simp] theorem bq_cut_stop : (s_cut == s_stop) = false := by decide
@[simp] theorem bq_stop_box : (s_stop == s_box) = false := by decide
@[simp] theorem bq_stop_gap : (s_stop == s_gap) = false := by decide
@[simp] theorem bq_stop_cut : (s_stop == s_cut) = false := by decide
theorem enc_eqv (a b : Item) : PyData.eqv a.enc b.enc = decide (a = b) := by
  cases a <;> cases b <;> simp [Item.enc, PyData.eqv, PyData.eqvAll, nat_beq]
@[simp] theorem eqOk_int (i : Int) : eqOk (.int i) = true := rfl
@[simp] theorem eqOk_bool (x : Bool) : eqOk (.bool x) = true := rfl
@[simp] theorem eqOk_none : eqOk .none = true := rfl
theorem is_integer_int (n : Nat) (i : Int) : evF tbl (n + 1) s_is_5f_integer [.dat (.int i)] = .ret (.dat (.bool true)) [.dat (.int i)] := by
  rw [run_eq (F := f_is_integer) (by rfl)]
  rfl
theorem is_within_int (n : Nat) (i a b : Int) : evF tbl (n + 2) s_is_5f_within [.dat (.int i), .dat (.int a), .dat (.int b)] = .ret (.dat (.bool (decide (a ≤ i) && decide (i ≤ b)))) [.dat (.int i), .dat (.int a), .dat (.int b)] := by
  rw [run_eq (F := f_is_within) (by rfl)]
  unfold runFn
  rw [if_pos (by constructor; rfl; intro i h; cases h)]
  cases h : decide (a ≤ i) <;> simp [f_is_within, evSs, evS, evE, evT, evRs, evVs, evDs, evCs, evO, evI, evPar, kVar, kBin, fOp, fCmp, kTest, kChain, kAnd, kOr, kNot, kNeg, kIte, kSlice, callR, kCall, kBi, kGd, kInG, kDs, kVs, kRs, kO, kSeq, kEnum, kInt, kR1, kR2, kR3, kZip, kConst, getS, Res.bind, Res.flow, Ev.Flow.ofOpt, argsOf, locsOf, nodupN, giveBack, isRet, Ev.settle, Ev.view, innOk, frz, dataOf, cmpV, ltI, eqV, inV, isV, isNoneV, truV, opV, subV, sliceV, biV, bi1, int1, int2, lenV, lstOf, seqOf, isTy, boolOf, intOf, Res.ofOpt, outR, backOf, asgR, asgD, setAll, setSlots, putV, augV, hasS, E.quiet, Es.quiet, lookA, keyOf, PyData.eqv, PyData.eqvAll, L2.atI, L2.ixN, flatD, List.range, List.range.loop, is_integer_int, h]
theorem is_item_ok (n : Nat) (a : Item) (h : a.ok) : evF tbl (n + 3) s_is_5f_item [.dat a.enc] = .ret (.dat (.bool true)) [.dat a.enc] := by
  rw [run_eq (F := f_is_item) (by rfl)]
  unfold runFn
  rw [if_pos (by constructor; rfl; intro i h; cases h)]
  cases a with
  | box k =>
    obtain ⟨h1, h2⟩ := h
    have e1 : (1 : Int) ≤ k := by omega
    have e2 : (k : Int) ≤ 1000 := by omega
    simp [f_is_item, Item.enc, evSs, evS, evE, evT, evRs, evVs, evDs, evCs, evO, evI, evPar, kVar, kBin, fOp, fCmp, kTest, kChain, kAnd, kOr, kNot, kNeg, kIte, kSlice, callR, kCall, kBi, kGd, kInG, kDs, kVs, kRs, kO, kSeq, kEnum, kInt, kR1, kR2, kR3, kZip, kConst, getS, Res.bind, Res.flow, Ev.Flow.ofOpt, argsOf, locsOf, nodupN, giveBack, isRet, Ev.settle, Ev.view, innOk, frz, dataOf, cmpV, ltI, eqV, inV, isV, isNoneV, truV, opV, subV, sliceV, biV, bi1, int1, int2, lenV, lstOf, seqOf, isTy, boolOf, intOf, Res.ofOpt, outR, backOf, asgR, asgD, setAll, setSlots, putV, augV, hasS, E.quiet, Es.quiet, lookA, keyOf, PyData.eqv, PyData.eqvAll, L2.atI, L2.ixN, flatD, List.range, List.range.loop, is_within_int, e1, e2]
  | gap k =>
    have h : k ≤ 1000 := h
    have e1 : (0 : Int) ≤ k := by omega
    have e2 : (k : Int) ≤ 1000 := by omega
    simp [f_is_item, Item.enc, evSs, evS, evE, evT, evRs, evVs, evDs, evCs, evO, evI, evPar, kVar, kBin, fOp, fCmp, kTest, kChain, kAnd, kOr, kNot, kNeg, kIte, kSlice, callR, kCall, kBi, kGd, kInG, kDs, kVs, kRs, kO, kSeq, kEnum, kInt, kR1, kR2, kR3, kZip, kConst, getS, Res.bind, Res.flow, Ev.Flow.ofOpt, argsOf, locsOf, nodupN, giveBack, isRet, Ev.settle, Ev.view, innOk, frz, dataOf, cmpV, ltI, eqV, inV, isV, isNoneV, truV, opV, subV, sliceV, biV, bi1, int1, int2, lenV, lstOf, seqOf, isTy, boolOf, intOf, Res.ofOpt, outR, backOf, asgR, asgD, setAll, setSlots, putV, augV, hasS, E.quiet, Es.quiet, lookA, keyOf, PyData.eqv, PyData.eqvAll, L2.atI, L2.ixN, flatD, List.range, List.range.loop, is_within_int, e1, e2]
  | cut k f =>
    obtain ⟨h1, h2⟩ := h
    have e1 : (0 : Int) ≤ k := by omega
    have e2 : (k : Int) ≤ 1000 := by omega
    have e3 : (0 : Int) ≤ f := by omega
    have e4 : (f : Int) ≤ 1000000 := by omega
    simp [f_is_item, Item.enc, evSs, evS, evE, evT, evRs, evVs, evDs, evCs, evO, evI, evPar, kVar, kBin, fOp, fCmp, kTest, kChain, kAnd, kOr, kNot, kNeg, kIte, kSlice, callR, kCall, kBi, kGd, kInG, kDs, kVs, kRs, kO, kSeq, kEnum, kInt, kR1, kR2, kR3, kZip, kConst, getS, Res.bind, Res.flow, Ev.Flow.ofOpt, argsOf, locsOf, nodupN, giveBack, isRet, Ev.settle, Ev.view, innOk, frz, dataOf, cmpV, ltI, eqV, inV, isV, isNoneV, truV, opV, subV, sliceV, biV, bi1, int1, int2, lenV, lstOf, seqOf, isTy, boolOf, intOf, Res.ofOpt, outR, backOf, asgR, asgD, setAll, setSlots, putV, augV, hasS, E.quiet, Es.quiet, lookA, keyOf, PyData.eqv, PyData.eqvAll, L2.atI, L2.ixN, flatD, List.range, List.range.loop, is_within_int, e1, e2, e3, e4]
  | stop => simp [f_is_item, Item.enc, evSs, evS, evE, evT, evRs, evVs, evDs, evCs, evO, evI, evPar, kVar, kBin, fOp, fCmp, kTest, kChain, kAnd, kOr, kNot, kNeg, kIte, kSlice, callR, kCall, kBi, kGd, kInG, kDs, kVs, kRs, kO, kSeq, kEnum, kInt, kR1, kR2, kR3, kZip, kConst, getS, Res.bind, Res.flow, Ev.Flow.ofOpt, argsOf, locsOf, nodupN, giveBack, isRet, Ev.settle, Ev.view, innOk, frz, dataOf, cmpV, ltI, eqV, inV, isV, isNoneV, truV, opV, subV, sliceV, biV, bi1, int1, int2, lenV, lstOf, seqOf, isTy, boolOf, intOf, Res.ofOpt, outR, backOf, asgR, asgD, setAll, setSlots, putV, augV, hasS, E.quiet, Es.quiet, lookA, keyOf, PyData.eqv, PyData.eqvAll, L2.atI, L2.ixN, flatD, List.range, List.range.loop, is_within_int]
end Pl

set_option Elab.async false
set_option linter.all false
set_option maxRecDepth 100000
set_option maxHeartbeats 1000000
/-! The plain law of k91: paragraphs. -/
namespace Pl
open PySem Ev Core88
theorem par_len (p : List Item) : (p.map Item.enc).length = p.length := List.length_map _
theorem is_sized_par (n : Nat) (p : List Item) (lo hi : Int) : evF tbl (n + 1) s_is_5f_sized [.dat (par p), .dat (.int lo), .dat (.int hi)] = .ret (.dat (.bool (decide (lo ≤ (p.length : Int)) && decide ((p.length : Int) ≤ hi)))) [.dat (par p), .dat (.int lo), .dat (.int hi)] := by
  rw [run_eq (F := f_is_sized) (by rfl)]
  unfold runFn
  rw [if_pos (by constructor; rfl; intro i h; cases h)]
  cases h : decide (lo ≤ (p.length : Int)) <;> simp [f_is_sized, par, evSs, evS, evE, evT, evRs, evVs, evDs, evCs, evO, evI, evPar, kVar, kBin, fOp, fCmp, kTest, kChain, kAnd, kOr, kNot, kNeg, kIte, kSlice, callR, kCall, kBi, kGd, kInG, kDs, kVs, kRs, kO, kSeq, kEnum, kInt, kR1, kR2, kR3, kZip, kConst, getS, Res.bind, Res.flow, Ev.Flow.ofOpt, argsOf, locsOf, nodupN, giveBack, isRet, Ev.settle, Ev.view, innOk, frz, dataOf, cmpV, ltI, eqV, inV, isV, isNoneV, truV, opV, subV, sliceV, biV, bi1, int1, int2, lenV, lstOf, seqOf, isTy, boolOf, intOf, Res.ofOpt, outR, backOf, asgR, asgD, setAll, setSlots, putV, augV, hasS, E.quiet, Es.quiet, lookA, keyOf, PyData.eqv, PyData.eqvAll, L2.atI, L2.ixN, flatD, List.range, List.range.loop, h]
def isBox : Item → Bool
  | .box _ => true
  | _ => false
/-- no two other than boxes side by side -/
def apart : List Item → Bool
  | a :: b :: r => (isBox a || isBox b) && apart (b :: r)
  | _ => true
structure Good (p : List Item) : Prop where
  ok : ∀ a ∈ p, a.ok
  len : p.length ≤ 40
  fst : ∃ k r, p = .box k :: r
  lst : ∃ k r, p = r ++ [.box k]
  ap : apart p = true
theorem atI_nat0 {α : Type} {x : α} {xs : List α} : L2.atI (x :: xs) 0 = some x := by
  simp [L2.atI, L2.ixN]
theorem enc_fst (a : Item) : ∃ x r, a.enc = .tuple (.str x :: r) ∧ (x == s_box) = isBox a ∧ eqOk (.str x) = true := by
  cases a
  · exact ⟨_, _, rfl, by simp [isBox], by decide +kernel⟩
  · exact ⟨_, _, rfl, by simp [isBox], by decide +kernel⟩
  · exact ⟨_, _, rfl, by simp [isBox], by decide +kernel⟩
  · exact ⟨_, _, rfl, by simp [isBox], by decide +kernel⟩
theorem zip_apart : ∀ {p : List Item}, apart p = true → ∀ d ∈ zipL (p.map Item.enc) ((p.map Item.enc).drop 1), ∃ a b : Item, d = .tuple [a.enc, b.enc] ∧ (isBox a || isBox b) = true
  | [], _, d, h => by cases h
  | [a], _, d, h => by cases h
  | a :: b :: r, h, d, hd => by
    unfold apart at h
    rw [Bool.and_eq_true] at h
    rcases List.mem_cons.mp (show d ∈ PyData.tuple [a.enc, b.enc] :: zipL ((b :: r).map Item.enc) (((b :: r).map Item.enc).drop 1) from hd) with rfl | hd
    · exact ⟨a, b, rfl, h.1⟩
    · exact zip_apart h.2 d hd
theorem bools_map (f : D → D) : ∀ ds : List D, (∀ d ∈ ds, f d = .bool true) → boolsOf (ds.map f) = some (ds.map fun _ => true)
  | [], _ => rfl
  | d :: ds, h => by
    rw [List.map_cons, h d List.mem_cons_self]
    show (boolsOf (ds.map f)).map (true :: ·) = _
    rw [bools_map f ds fun x hx => h x (List.mem_cons_of_mem _ hx)]
    rfl
theorem all_true (ds : List D) : (ds.map fun _ => true).all id = true := by induction ds <;> simp_all
/-- all([c(d) for d in ..]), each true -/
theorem all_comp {call : Str → List Slot → FRes} {own : List Nat} {tg : Tg} {it : It} {elt : E} {δ δ1 : Sts} {ds : List D} (hi : evI call it δ = .ok ds δ1) (hp : (plainS δ1 own && okLen ds.length) = true) {I : Sts → Prop} (h0 : I δ1)
    (hs : ∀ d ∈ ds, ∀ δ, I δ → ∃ δ', stepC own tg (evCs call .nil) (evE call elt) d δ = .ok (some (.bool true)) δ' ∧ I δ') : ∃ δ2, I δ2 ∧ evE call (.bi .all (.cons (.comp own tg it .nil elt) .nil)) δ = .ok (.dat (.bool true)) (backS δ1 δ2 own) := by
  obtain ⟨δ2, e2, h2⟩ := compF_map (g := fun _ => .bool true) ds [] δ1 hs h0
  refine ⟨δ2, h2, ?_⟩
  have e3 : kComp own tg (evI call it) (evCs call .nil) (evE call elt) δ = .ok (.own (.lst (ds.map fun _ => .bool true))) (backS δ1 δ2 own) := by
    unfold kComp
    rw [hi]
    show (if (plainS δ1 own && okLen ds.length) = true then _ else _) = _
    rw [if_pos hp, e2]
    rfl
  show kBi .all (kVs true (kComp own tg (evI call it) (evCs call .nil) (evE call elt)) (kConst [])) δ = _
  unfold kBi kVs
  rw [e3]
  show Res.ofOpt ((boolsOf (ds.map fun _ => PyData.bool true)).map fun bs => RV.dat (.bool (bs.all id))) (backS δ1 δ2 own) = _
  rw [bools_map _ ds fun _ _ => rfl]
  show Res.ok (RV.dat (.bool ((ds.map fun _ => true).all id))) _ = _
  rw [all_true]
/-! ### statements and tests, step by step -/
section
variable {call : Str → List Slot → FRes} {δ δ1 δ2 : Sts} {c x y : E} {a b ss : Ss} {r : RV} {k : Bool}
theorem ite_f (h : evT call c δ = .ok false δ1) (hb : evSs call b δ1 = .next δ2) : evSs call (.cons (.ite c a b) ss) δ = evSs call ss δ2 := by
  show (match (evT call c δ).flow fun k δ => if k then evSs call a δ else evSs call b δ with
    | .next δ => evSs call ss δ
    | f => f) = _
  rw [h]
  show (match evSs call b δ1 with
    | .next δ => evSs call ss δ
    | f => f) = _
  rw [hb]
theorem ite_t (h : evT call c δ = .ok true δ1) : evSs call (.cons (.ite c a b) ss) δ = match evSs call a δ1 with
    | .next δ => evSs call ss δ
    | f => f := by
  show (match (evT call c δ).flow fun k δ => if k then evSs call a δ else evSs call b δ with
    | .next δ => evSs call ss δ
    | f => f) = _
  rw [h]
  rfl
theorem ret_s (h : evE call x δ = .ok r δ1) : evSs call (.cons (.ret x) ss) δ = .ret r δ1 := by
  show (match (evE call x δ).flow fun r δ => Ev.Flow.ret r δ with
    | .next δ => evSs call ss δ
    | f => f) = _
  rw [h]
  rfl
theorem or_f (h : evT call x δ = .ok false δ1) (h2 : evT call y δ1 = .ok k δ2) : evT call (.or x y) δ = .ok k δ2 := by
  show (evT call x δ).bind (fun k δ => if k then kConst true δ else evT call y δ) = _
  rw [h]
  exact h2
theorem or_t (h : evT call x δ = .ok true δ1) : evT call (.or x y) δ = .ok true δ1 := by
  show (evT call x δ).bind (fun k δ => if k then kConst true δ else evT call y δ) = _
  rw [h]
  rfl
theorem not_s (h : evT call x δ = .ok k δ1) : evT call (.not x) δ = .ok (!k) δ1 := by
  show (evT call x δ).bind (fun k δ => .ok (!k) δ) = _
  rw [h]
  rfl
theorem call_s {f : Str} {es : Es} {rs : List RV} {as back : List Ev.Slot} (h : evRs call es δ = .ok rs δ1) (ha : argsOf rs δ1 = some as) (hn : nodupN (locsOf rs) = true) (hc : call f as = .ret r back) (hr : isRet r = true) (hb : giveBack rs back δ1 = some δ2) : evE call (.call f es) δ = .ok r δ2 := by
  show (evRs call es δ).bind (fun rs δ => callR call f rs δ) = _
  rw [h]
  show callR call f rs δ1 = _
  unfold callR
  rw [ha]
  show (if nodupN (locsOf rs) = true then _ else _) = _
  rw [if_pos hn, hc]
  show (if isRet r = true then _ else _) = _
  rw [if_pos hr, hb]
theorem call_x {f cl : Str} {es : Es} {rs : List RV} {as back : List Ev.Slot} (h : evRs call es δ = .ok rs δ1) (ha : argsOf rs δ1 = some as) (hn : nodupN (locsOf rs) = true) (hc : call f as = .exc cl back) (hb : giveBack rs back δ1 = some δ2) : evE call (.call f es) δ = .exc cl δ2 := by
  show (evRs call es δ).bind (fun rs δ => callR call f rs δ) = _
  rw [h]
  show callR call f rs δ1 = _
  unfold callR
  rw [ha]
  show (if nodupN (locsOf rs) = true then _ else _) = _
  rw [if_pos hn, hc]
  show (match giveBack rs back δ1 with
      | some δ' => Res.exc cl δ'
      | none => .stuck) = _
  rw [hb]
theorem call_t {f : Str} {es : Es} {bb : Bool} (h : evE call (.call f es) δ = .ok (.dat (.bool bb)) δ1) : evT call (.call f es) δ = .ok bb δ1 := by
  show kTest truV (evE call (.call f es)) δ = _
  unfold kTest
  rw [h]
  rfl
theorem sub_s {dx dk : D} (ha : evE call x δ = .ok (.dat dx) δ1) (hi : evE call y δ1 = .ok (.dat dk) δ2) (hs : subV (.dat dx) (.dat dk) = some r) : evE call (.sub x y) δ = .ok r δ2 := by
  show (evE call x δ).bind (fun ra δ1 => (evE call y δ1).bind fun rb δ2 => if innOk ra y.quiet then Res.ofOpt (subV (Ev.view ra δ2) (Ev.view rb δ2)) δ2 else .stuck) = _
  rw [ha]
  show (evE call y δ1).bind (fun rb δ2 => if innOk (.dat dx) y.quiet then Res.ofOpt (subV (Ev.view (.dat dx) δ2) (Ev.view rb δ2)) δ2 else .stuck) = _
  rw [hi]
  show Res.ofOpt (subV (.dat dx) (.dat dk)) δ2 = _
  rw [hs]
  rfl
theorem cmp_s {op : Cmp} {dx dk : D} (ha : evE call x δ = .ok (.dat dx) δ1) (hi : evE call y δ1 = .ok (.dat dk) δ2) (hs : cmpV op (.dat dx) (.dat dk) = some k) : evE call (.cmp op x y) δ = .ok (.dat (.bool k)) δ2 := by
  show (evE call x δ).bind (fun ra δ1 => (evE call y δ1).bind fun rb δ2 => if innOk ra y.quiet then Res.ofOpt (fCmp op (Ev.view ra δ2) (Ev.view rb δ2)) δ2 else .stuck) = _
  rw [ha]
  show (evE call y δ1).bind (fun rb δ2 => if innOk (.dat dx) y.quiet then Res.ofOpt (fCmp op (Ev.view (.dat dx) δ2) (Ev.view rb δ2)) δ2 else .stuck) = _
  rw [hi]
  show Res.ofOpt ((cmpV op (.dat dx) (.dat dk)).map fun c => RV.dat (.bool c)) δ2 = _
  rw [hs]
  rfl
theorem cmp_t {op : Cmp} (h : evE call (.cmp op x y) δ = .ok (.dat (.bool k)) δ1) : evT call (.cmp op x y) δ = .ok k δ1 := by
  show kTest boolOf (evE call (.cmp op x y)) δ = _
  unfold kTest
  rw [h]
  rfl
theorem eq_str {u v : Str} (hu : eqOk (.str u) = true) (hv : eqOk (.str v) = true) : cmpV .eq (.dat (.str u)) (.dat (.str v)) = some (u == v) := by
  show (if (eqOk (.str u) && eqOk (.str v)) = true then some (PyData.eqv (.str u) (.str v)) else none) = _
  rw [hu, hv]
  simp [PyData.eqv]
theorem ne_str {u v : Str} (hu : eqOk (.str u) = true) (hv : eqOk (.str v) = true) : cmpV .ne (.dat (.str u)) (.dat (.str v)) = some (!(u == v)) := by
  show (cmpV .eq (.dat (.str u)) (.dat (.str v))).map (!·) = _
  rw [eq_str hu hv]
  rfl
theorem bi_t {bi : Bi} {es : Es} (h : evE call (.bi bi es) δ = .ok (.dat (.bool k)) δ1) : evT call (.bi bi es) δ = .ok k δ1 := by
  show kTest truV (evE call (.bi bi es)) δ = _
  unfold kTest
  rw [h]
  rfl
end
theorem cut1 (ds : List D) : cutL ds (some 1) none = ds.drop 1 := by
  cases ds with
  | nil => rfl
  | cons d ds =>
    unfold cutL
    simp [HT.sIx]
theorem zip_le : ∀ ds es : List D, (zipL ds es).length ≤ ds.length
  | [], es => by cases es <;> exact Nat.zero_le _
  | d :: ds, [] => Nat.zero_le _
  | d :: ds, e :: es => Nat.succ_le_succ (zip_le ds es)
theorem is_paragraph_ok (n : Nat) (p : List Item) (h : Good p) : evF tbl (n + 4) s_is_5f_paragraph [.dat (par p)] = .ret (.dat (.bool true)) [.dat (par p)] := by
  obtain ⟨k0, r0, e0⟩ := h.fst
  obtain ⟨k1, r1, e1⟩ := h.lst
  have hl := h.len
  have hl1 : 1 ≤ p.length := by rw [e0]; simp
  rw [run_eq (F := f_is_paragraph) (by rfl)]
  unfold runFn
  rw [if_pos (by constructor; rfl; intro i h; cases h)]
  let δ0 : Sts := [.dat (par p), .emp, .emp]
  let call := evF tbl (n + 3)
  -- each item
  have hA := all_comp (call := call) (own := [1]) (tg := .nm 1) (it := .seq (.var 0)) (elt := .call s_is_5f_item (.cons (.var 1) .nil)) (δ := δ0) (δ1 := δ0) (ds := p.map Item.enc) rfl (by
    show (true && okLen (p.map Item.enc).length) = true
    rw [par_len]
    exact Nat.ble_eq_true_of_le (Nat.le_trans hl (by decide))) (I := fun δ => ∃ s, δ = [.dat (par p), s, .emp]) ⟨.emp, rfl⟩ (fun d hd δ ⟨s, hs⟩ => by
    obtain ⟨a, ha, rfl⟩ := List.mem_map.mp hd
    subst hs
    refine ⟨[.dat (par p), .dat a.enc, .emp], ?_, _, rfl⟩
    have hi := is_item_ok n a (h.ok a ha)
    have hc : evE call (.call s_is_5f_item (.cons (.var 1) .nil)) [.dat (par p), .dat a.enc, .emp] = .ok (.dat (.bool true)) [.dat (par p), .dat a.enc, .emp] := call_s rfl rfl rfl hi rfl rfl
    show (evE call (.call s_is_5f_item (.cons (.var 1) .nil)) [.dat (par p), .dat a.enc, .emp]).bind (fun r δ => (Ev.settle r δ).bind fun y δ => .ok (some y) δ) = _
    rw [hc]
    rfl)
  obtain ⟨δ2, ⟨s2, hs2⟩, hA⟩ := hA
  subst hs2
  have hA : evE call (.bi .all (.cons (.comp [1] (.nm 1) (.seq (.var 0)) .nil (.call s_is_5f_item (.cons (.var 1) .nil))) .nil)) δ0 = .ok (.dat (.bool true)) δ0 := hA
  -- pairs
  have hB := all_comp (call := call) (own := [1, 2]) (tg := .tup [1, 2]) (it := .zip (.var 0) (.slice (.var 0) (.some (.cst (.int 1))) .none)) (elt := .or (.cmp .eq (.sub (.var 1) (.cst (.int 0))) (.glb s_BOX (.str s_box))) (.cmp .eq (.sub (.var 2) (.cst (.int 0))) (.glb s_BOX (.str s_box)))) (δ := δ0) (δ1 := δ0)
    (ds := zipL (p.map Item.enc) ((p.map Item.enc).drop 1)) (by
      have e : cutL (p.map Item.enc) (some 1) none = (p.map Item.enc).drop 1 := by
        exact cut1 _
      show Res.ok (zipL (p.map Item.enc) (cutL (p.map Item.enc) (some 1) none)) δ0 = _
      rw [e]) (by
      show (true && okLen (zipL (p.map Item.enc) ((p.map Item.enc).drop 1)).length) = true
      exact Nat.ble_eq_true_of_le (Nat.le_trans (zip_le _ _) (by rw [par_len]; exact Nat.le_trans hl (by decide)))) (I := fun δ => ∃ s t, δ = [.dat (par p), s, t]) ⟨.emp, .emp, rfl⟩ (fun d hd δ ⟨s, t, hs⟩ => by
    obtain ⟨a, b, rfl, hab⟩ := zip_apart h.ap d hd
    subst hs
    refine ⟨[.dat (par p), .dat a.enc, .dat b.enc], ?_, _, _, rfl⟩
    obtain ⟨x, r, ea, ex, ox⟩ := enc_fst a
    obtain ⟨y, r', eb, ey, oy⟩ := enc_fst b
    rw [ea, eb]
    rw [← ex, ← ey] at hab
    simp [stepC, asgD, setAll, wipeS, evSs, evS, evE, evT, evRs, evVs, evDs, evCs, evO, evI, evPar, kVar, kBin, fOp, fCmp, kTest, kChain, kAnd, kOr, kNot, kNeg, kIte, kSlice, callR, kCall, kBi, kGd, kInG, kDs, kVs, kRs, kO, kSeq, kEnum, kInt, kR1, kR2, kR3, kZip, kConst, getS, Res.bind, Res.flow, Ev.Flow.ofOpt, argsOf, locsOf, nodupN, giveBack, isRet, Ev.settle, Ev.view, innOk, frz, dataOf, cmpV, ltI, eqV, inV, isV, isNoneV, truV, opV, subV, sliceV, biV, bi1, int1, int2, lenV, lstOf, seqOf, isTy, boolOf, intOf, Res.ofOpt, outR, backOf, asgR, asgD, setAll, setSlots, putV, augV, hasS, E.quiet, Es.quiet, lookA, keyOf, PyData.eqv, PyData.eqvAll, L2.atI, L2.ixN, flatD, List.range, List.range.loop, ox, oy]
    cases hx : (x == s_box) with
    | true => rfl
    | false =>
      rw [hx] at hab
      have hy : (y == s_box) = true := by simpa using hab
      rw [hy])
  obtain ⟨δ3, ⟨s3, t3, hs3⟩, hB⟩ := hB
  subst hs3
  have hS : evE call (.call s_is_5f_sized (.cons (.var 0) (.cons (.cst (.int 1)) (.cons (.glb s_MOST_5f_ITEMS (.int 40)) .nil)))) δ0 = .ok (.dat (.bool true)) δ0 := by
    have hz := is_sized_par (n + 2) p 1 40
    have e1' : (1 : Int) ≤ (p.length : Int) := by omega
    have e2' : (p.length : Int) ≤ 40 := by omega
    rw [decide_eq_true e1', decide_eq_true e2'] at hz
    exact call_s rfl rfl rfl hz rfl rfl
  have h1 : evSs call f_is_paragraph.body δ0 = .ret (.dat (.bool true)) δ0 := by
    refine (ite_f (or_f (not_s (call_t hS)) (not_s (bi_t hA))) rfl).trans ((ite_f (δ1 := δ0) (or_f (k := false) (δ1 := δ0) ?_ ?_) rfl).trans (ret_s hB))
    · have hp : par p = .tuple ((Item.box k0).enc :: r0.map Item.enc) := by rw [e0]; rfl
      refine cmp_t (k := false) (cmp_s (sub_s (dx := (Item.box k0).enc) (dk := .int 0) (r := .dat (.str s_box)) (sub_s (dx := par p) (dk := .int 0) rfl rfl ?_) rfl rfl) rfl ((ne_str ok_box ok_box).trans (by simp)))
      rw [hp]
      show (L2.atI ((Item.box k0).enc :: r0.map Item.enc) 0).map RV.dat = _
      rw [atI_nat0]
      rfl
    · have hp : par p = .tuple (r1.map Item.enc ++ [(Item.box k1).enc]) := by rw [e1]; simp [par]
      refine cmp_t (k := false) (cmp_s (sub_s (dx := (Item.box k1).enc) (dk := .int 0) (r := .dat (.str s_box)) (sub_s (dx := par p) (dk := .int (-1)) rfl rfl ?_) rfl rfl) rfl ((ne_str ok_box ok_box).trans (by simp)))
      rw [hp]
      show (L2.atI (r1.map Item.enc ++ [(Item.box k1).enc]) (-1)).map RV.dat = _
      rw [L2.atI_last]
      rfl
  have h2 : evSs (evF tbl (n + 3)) f_is_paragraph.body ([.dat (par p)] ++ List.replicate (f_is_paragraph.names.length - [Ev.Slot.dat (par p)].length) .emp) = .ret (.dat (.bool true)) δ0 := h1
  rw [h2]
  rfl
end Pl

set_option Elab.async false
set_option linter.all false
set_option maxRecDepth 100000
set_option maxHeartbeats 1000000
/-! The plain law of k91: checks, tables. -/
namespace Pl
open PySem Ev Core88
section
variable {call : Str → List Ev.Slot → FRes} {δ δ1 δ2 : Sts} {c x y : E} {a b ss : Ss} {r : RV} {k : Bool} {cl : Str}
theorem expr_s (h : evE call x δ = .ok r δ1) : evSs call (.cons (.expr x) ss) δ = evSs call ss δ1 := by
  show (match (evE call x δ).flow fun _ δ => Ev.Flow.next δ with
    | .next δ => evSs call ss δ
    | f => f) = _
  rw [h]
  rfl
theorem expr_x (h : evE call x δ = .exc cl δ1) : evSs call (.cons (.expr x) ss) δ = .exc cl δ1 := by
  show (match (evE call x δ).flow fun _ δ => Ev.Flow.next δ with
    | .next δ => evSs call ss δ
    | f => f) = _
  rw [h]
  rfl
end
/-- a value that the program takes for a paragraph, or not -/
def IsPar (d : D) (b : Bool) : Prop := ∀ n, evF tbl (n + 4) s_is_5f_paragraph [.dat d] = .ret (.dat (.bool b)) [.dat d]
theorem good_par {p : List Item} (h : Good p) : IsPar (par p) true := fun n => is_paragraph_ok n p h
theorem check_ok {d : D} (h : IsPar d true) (n : Nat) : evF tbl (n + 5) s_check_5f_paragraph [.dat d] = .ret (.dat .none) [.dat d] := by
  rw [run_eq (F := f_check_paragraph) (by rfl)]
  unfold runFn
  rw [if_pos (by constructor; rfl; intro i h; cases h)]
  have h1 : evSs (evF tbl (n + 4)) f_check_paragraph.body ([.dat d] ++ List.replicate (f_check_paragraph.names.length - [Ev.Slot.dat d].length) .emp) = .next [.dat d] :=
    (ite_f (δ1 := [.dat d]) (not_s (k := true) (call_t (call_s rfl rfl rfl (h n) rfl rfl))) rfl)
  rw [h1]
  rfl
theorem check_bad {d : D} (h : IsPar d false) (n : Nat) : evF tbl (n + 5) s_check_5f_paragraph [.dat d] = .exc s_NoParagraph [.dat d] := by
  rw [run_eq (F := f_check_paragraph) (by rfl)]
  unfold runFn
  rw [if_pos (by constructor; rfl; intro i h; cases h)]
  have h1 : evSs (evF tbl (n + 4)) f_check_paragraph.body ([.dat d] ++ List.replicate (f_check_paragraph.names.length - [Ev.Slot.dat d].length) .emp) = .exc s_NoParagraph [.dat d] :=
    (ite_t (δ1 := [.dat d]) (not_s (k := false) (call_t (call_s rfl rfl rfl (h n) rfl rfl)))).trans rfl
  rw [h1]
  rfl
/-! ### the four odd ones -/
theorem odd_none : IsPar .none false := fun n => by
  rw [run_eq (F := f_is_paragraph) (by rfl)]
  have hz : evF tbl (n + 3) s_is_5f_sized [.dat .none, .dat (.int 1), .dat (.int 40)] = .ret (.dat (.bool false)) [.dat .none, .dat (.int 1), .dat (.int 40)] := by
    rw [run_eq (F := f_is_sized) (by rfl)]
    rfl
  unfold runFn
  rw [if_pos (by constructor; rfl; intro i h; cases h)]
  have h1 : evSs (evF tbl (n + 3)) f_is_paragraph.body ([.dat .none] ++ List.replicate (f_is_paragraph.names.length - [Ev.Slot.dat .none].length) .emp) = .ret (.dat (.bool false)) [.dat .none, .emp, .emp] :=
    (ite_t (δ1 := [.dat .none, .emp, .emp]) (or_t (not_s (k := false) (call_t (call_s rfl rfl rfl hz rfl rfl))))).trans rfl
  rw [h1]
  rfl
theorem odd_sized {d : D} (hz : ∀ n, evF tbl (n + 3) s_is_5f_sized [.dat d, .dat (.int 1), .dat (.int 40)] = .ret (.dat (.bool false)) [.dat d, .dat (.int 1), .dat (.int 40)]) : IsPar d false := fun n => by
  rw [run_eq (F := f_is_paragraph) (by rfl)]
  unfold runFn
  rw [if_pos (by constructor; rfl; intro i h; cases h)]
  have h1 : evSs (evF tbl (n + 3)) f_is_paragraph.body ([.dat d] ++ List.replicate (f_is_paragraph.names.length - [Ev.Slot.dat d].length) .emp) = .ret (.dat (.bool false)) [.dat d, .emp, .emp] :=
    (ite_t (δ1 := [.dat d, .emp, .emp]) (or_t (not_s (k := false) (call_t (call_s rfl rfl rfl (hz n) rfl rfl))))).trans rfl
  rw [h1]
  rfl
theorem odd_nil : IsPar (.tuple []) false := odd_sized fun n => by
  rw [run_eq (F := f_is_sized) (by rfl)]
  rfl
theorem odd_list (ds : List D) : IsPar (.list ds) false := odd_sized fun n => by
  rw [run_eq (F := f_is_sized) (by rfl)]
  rfl
/-! ### the distance -/
def ed : List Item → List Item → Nat
  | [], ys => ys.length
  | x :: xs, [] => xs.length + 1
  | x :: xs, y :: ys => if x = y then min (min (ed xs (y :: ys) + 1) (ed (x :: xs) ys + 1)) (ed xs ys) else min (ed xs (y :: ys) + 1) (ed (x :: xs) ys + 1)
theorem ed_nil (xs : List Item) : ed xs [] = xs.length := by cases xs <;> simp [ed]
theorem ed_symm : ∀ xs ys : List Item, ed xs ys = ed ys xs
  | [], ys => by rw [ed_nil]; simp [ed]
  | x :: xs, [] => by rw [ed_nil]; simp [ed]
  | x :: xs, y :: ys => by
    unfold ed
    rw [ed_symm xs (y :: ys), ed_symm (x :: xs) ys, ed_symm xs ys]
    by_cases h : x = y
    · rw [if_pos h, if_pos h.symm, Nat.min_comm (ed (y :: ys) xs + 1)]
    · rw [if_neg h, if_neg (Ne.symm h), Nat.min_comm]
termination_by xs ys => xs.length + ys.length
/-! ### tables -/
def row (f : Nat → Int) (n : Nat) : List D := (List.range n).map fun j => .int (f j)
def Tab (f : Nat → Nat → Int) (m n : Nat) : List (List D) := (List.range m).map fun i => row (f i) n
def upd1 (f : Nat → Int) (j : Nat) (v : Int) : Nat → Int := fun k => if k = j then v else f k
def upd2 (f : Nat → Nat → Int) (i j : Nat) (v : Int) : Nat → Nat → Int := fun k => if k = i then upd1 (f i) j v else f k
theorem map_set {α : Type} (g : Nat → α) (n j : Nat) (v : α) : ((List.range n).map g).set j v = (List.range n).map fun k => if k = j then v else g k := by
  apply List.ext_getElem?
  intro k
  rw [List.getElem?_set, List.getElem?_map, List.getElem?_map]
  by_cases h : j = k
  · subst h
    rw [if_pos rfl]
    by_cases hl : j < n
    · rw [List.getElem?_range hl]
      simp [hl]
    · rw [List.getElem?_eq_none (by simpa using hl)]
      simp [hl]
  · rw [if_neg h]
    cases e : (List.range n)[k]? with
    | none => rfl
    | some q =>
      have : q = k := by
        obtain ⟨hk, e2⟩ := List.getElem?_eq_some_iff.mp e
        simpa using e2.symm
      subst this
      simp [Ne.symm h]
theorem row_set (f : Nat → Int) (n j : Nat) (v : Int) : (row f n).set j (.int v) = row (upd1 f j v) n := by
  unfold row
  rw [map_set]
  congr 1
  funext k
  unfold upd1
  split <;> rfl
theorem Tab_set (f : Nat → Nat → Int) (m n i j : Nat) (v : Int) : (Tab f m n).set i (row (upd1 (f i) j v) n) = Tab (upd2 f i j v) m n := by
  unfold Tab
  rw [map_set]
  congr 1
  funext k
  unfold upd2
  split <;> rfl
theorem Tab_get (f : Nat → Nat → Int) {m n i : Nat} (h : i < m) : (Tab f m n)[i]? = some (row (f i) n) := by
  unfold Tab
  rw [List.getElem?_map, List.getElem?_range h]; rfl
theorem row_get (f : Nat → Int) {n j : Nat} (h : j < n) : (row f n)[j]? = some (.int (f j)) := by
  unfold row
  rw [List.getElem?_map, List.getElem?_range h]; rfl
theorem Tab_len (f : Nat → Nat → Int) (m n : Nat) : (Tab f m n).length = m := by simp [Tab]
theorem row_len (f : Nat → Int) (n : Nat) : (row f n).length = n := by simp [row]
end Pl

set_option Elab.async false
set_option linter.all false
set_option maxRecDepth 100000
set_option maxHeartbeats 1000000
/-! The plain law of k91: the distance table. -/
namespace Pl
open PySem Ev Core88
section
variable {call : Str → List Ev.Slot → FRes} {δ δ1 δ2 δ3 : Sts} {c x y z : E} {a b ss : Ss} {r : RV} {k : Bool} {cl : Str}
theorem and_f (h : evT call x δ = .ok false δ1) : evT call (.and x y) δ = .ok false δ1 := by
  show (evT call x δ).bind (fun k δ => if k then evT call y δ else kConst false δ) = _
  rw [h]
  rfl
theorem and_t (h : evT call x δ = .ok true δ1) (h2 : evT call y δ1 = .ok k δ2) : evT call (.and x y) δ = .ok k δ2 := by
  show (evT call x δ).bind (fun k δ => if k then evT call y δ else kConst false δ) = _
  rw [h]
  exact h2
theorem set_o {i : Nat} {s : Ev.Slot} (h : evE call x δ = .ok (.own s) δ1) : evSs call (.cons (.set (.nm i) x) ss) δ = evSs call ss (δ1.set i s) := by
  show (match (evE call x δ).flow fun r δ => Ev.Flow.ofOpt (asgR (.nm i) r δ) with
    | .next δ => evSs call ss δ
    | f => f) = _
  rw [h]
  rfl
theorem set_d {i : Nat} {d : D} (h : evE call x δ = .ok (.dat d) δ1) : evSs call (.cons (.set (.nm i) x) ss) δ = evSs call ss (δ1.set i (.dat d)) := by
  show (match (evE call x δ).flow fun r δ => Ev.Flow.ofOpt (asgR (.nm i) r δ) with
    | .next δ => evSs call ss δ
    | f => f) = _
  rw [h]
  rfl
theorem app_s {i : Nat} {d : D} {ds : List D} (h5 : getS δ i = .lst ds) (h : evE call x δ = .ok (.dat d) δ) (hl : ds.length < line) : evSs call (.cons (.app i x) ss) δ = evSs call ss (δ.set i (.lst (ds ++ [d]))) := by
  show (match (match getS δ i with
      | .lst _ => (evE call x δ).flow fun r δ => (Ev.settle r δ).flow fun d δ => (match getS δ i with
        | .lst ds => if Nat.blt ds.length line then .next (δ.set i (.lst (ds ++ [d]))) else .stuck
        | _ => .stuck)
      | _ => .stuck : Ev.Flow) with
    | .next δ => evSs call ss δ
    | f => f) = _
  rw [h5, h]
  show (match (match getS δ i with
        | .lst ds => if Nat.blt ds.length line then .next (δ.set i (.lst (ds ++ [d]))) else .stuck
        | _ => .stuck : Ev.Flow) with
    | .next δ => evSs call ss δ
    | f => f) = _
  rw [h5]
  show (match (if Nat.blt ds.length line = true then .next (δ.set i (.lst (ds ++ [d]))) else .stuck : Ev.Flow) with
    | .next δ => evSs call ss δ
    | f => f) = _
  rw [if_pos (Nat.blt_eq.mpr hl)]
theorem add_i {i j : Int} (h1 : evE call x δ = .ok (.dat (.int i)) δ) (h2 : evE call y δ = .ok (.dat (.int j)) δ) : evE call (.bin .add x y) δ = .ok (.dat (.int (i + j))) δ := by
  show (evE call x δ).bind (fun ra δ1 => (evE call y δ1).bind fun rb δ2 => if innOk ra y.quiet then Res.ofOpt (fOp .add (Ev.view ra δ2) (Ev.view rb δ2)) δ2 else .stuck) = _
  rw [h1]
  show (evE call y δ).bind (fun rb δ2 => if innOk (.dat (.int i)) y.quiet then Res.ofOpt (fOp .add (Ev.view (.dat (.int i)) δ2) (Ev.view rb δ2)) δ2 else .stuck) = _
  rw [h2]
  rfl
theorem lt_t {i j : Int} (h1 : evE call x δ = .ok (.dat (.int i)) δ) (h2 : evE call y δ = .ok (.dat (.int j)) δ) : evT call (.cmp .lt x y) δ = .ok (decide (i < j)) δ := cmp_t (cmp_s h1 h2 rfl)
theorem gt_t {i j : Int} (h1 : evE call x δ = .ok (.dat (.int i)) δ) (h2 : evE call y δ = .ok (.dat (.int j)) δ) : evT call (.cmp .gt x y) δ = .ok (decide (j < i)) δ := cmp_t (cmp_s h1 h2 rfl)
theorem var_d {i : Nat} {d : D} (h : getS δ i = .dat d) : evE call (.var i) δ = .ok (.dat d) δ := by
  show kVar i δ = _
  unfold kVar
  rw [h]
theorem len_d {i : Nat} {ds : List D} (h : getS δ i = .dat (.tuple ds)) : evE call (.bi .len (.cons (.var i) .nil)) δ = .ok (.dat (.int ds.length)) δ := by
  have hv : evE call (.var i) δ = .ok (.dat (.tuple ds)) δ := var_d h
  show kBi .len (kVs true (evE call (.var i)) (kConst [])) δ = _
  unfold kBi kVs
  rw [hv]
  rfl
theorem len_l {i : Nat} {ds : List D} (h : getS δ i = .lst ds) : evE call (.bi .len (.cons (.var i) .nil)) δ = .ok (.dat (.int ds.length)) δ := by
  have hv : evE call (.var i) δ = .ok (.loc i) δ := by
    show kVar i δ = _
    unfold kVar
    rw [h]
  show kBi .len (kVs true (evE call (.var i)) (kConst [])) δ = _
  unfold kBi kVs
  rw [hv]
  show Res.ofOpt (biV .len [getS δ i]) δ = _
  rw [h]
  rfl
theorem rows_s {w : Nat} {f : Nat → Nat → Int} {M N i j : Nat} (hq : z.quiet = true) (h2 : getS δ w = .rows (Tab f M N)) (hi : evE call y δ = .ok (.dat (.int i)) δ) (hj : evE call z δ = .ok (.dat (.int j)) δ) (bi : i < M) (bj : j < N) : evE call (.sub (.sub (.var w) y) z) δ = .ok (.dat (.int (f i j))) δ := by
  have hv : evE call (.var w) δ = .ok (.loc w) δ := by
    show kVar w δ = _
    unfold kVar
    rw [h2]
  have h1 : evE call (.sub (.var w) y) δ = .ok (.inn (row (f i) N)) δ := by
    show (evE call (.var w) δ).bind (fun ra δ1 => (evE call y δ1).bind fun rb δ2 => if innOk ra y.quiet then Res.ofOpt (subV (Ev.view ra δ2) (Ev.view rb δ2)) δ2 else .stuck) = _
    rw [hv]
    show (evE call y δ).bind (fun rb δ2 => if innOk (.loc w) y.quiet then Res.ofOpt (subV (Ev.view (.loc w) δ2) (Ev.view rb δ2)) δ2 else .stuck) = _
    rw [hi]
    show Res.ofOpt (subV (getS δ w) (.dat (.int i))) δ = _
    rw [h2]
    show Res.ofOpt ((L2.atI (Tab f M N) (i : Int)).map RV.inn) δ = _
    rw [L2.atI_nat (Tab_get f bi)]
    rfl
  show (evE call (.sub (.var w) y) δ).bind (fun ra δ1 => (evE call z δ1).bind fun rb δ2 => if innOk ra z.quiet then Res.ofOpt (subV (Ev.view ra δ2) (Ev.view rb δ2)) δ2 else .stuck) = _
  rw [h1]
  show (evE call z δ).bind (fun rb δ2 => if innOk (.inn (row (f i) N)) z.quiet then Res.ofOpt (subV (Ev.view (.inn (row (f i) N)) δ2) (Ev.view rb δ2)) δ2 else .stuck) = _
  rw [hj]
  show (if z.quiet = true then Res.ofOpt (subV (.lst (row (f i) N)) (.dat (.int j))) δ else .stuck) = _
  rw [if_pos hq]
  show Res.ofOpt ((L2.atI (row (f i) N) (j : Int)).map RV.dat) δ = _
  rw [L2.atI_nat (row_get (f i) bj)]
  rfl
end
end Pl

set_option Elab.async false
set_option linter.all false
set_option maxRecDepth 100000
set_option maxHeartbeats 1000000
/-! The plain law of k91: far_behind. -/
namespace Pl
open PySem Ev Core88
/-- what can be compared: its signs and its depth -/
def Lay (k : Nat) (d : D) : Prop := d.canLay0 = true ∧ d.depth ≤ k
theorem Lay.ok {k : Nat} {d : D} (h : Lay k d) (hk : k ≤ 64) : eqOk d = true := by
  show (d.canLay0 && decide (d.depth ≤ 64)) = true
  rw [h.1, decide_eq_true (Nat.le_trans h.2 hk)]
  rfl
theorem Lay.all {k : Nat} : ∀ {ds : List D}, (∀ d ∈ ds, Lay k d) → PyData.canLayAll0 ds = true ∧ PyData.depthAll ds ≤ k
  | [], _ => ⟨by simp [PyData.canLayAll0], by simp [PyData.depthAll]⟩
  | d :: ds, h => by
    obtain ⟨h1, h2⟩ := h d List.mem_cons_self
    obtain ⟨h3, h4⟩ := Lay.all fun x hx => h x (List.mem_cons_of_mem _ hx)
    constructor
    · simp [PyData.canLayAll0, h1, h3]
    · simp only [PyData.depthAll]; omega
theorem Lay.tup {k : Nat} {ds : List D} (h : ∀ d ∈ ds, Lay k d) : Lay (k + 1) (.tuple ds) := by
  obtain ⟨h1, h2⟩ := Lay.all h
  constructor
  · simp [PyData.canLay0, h1]
  · simp only [PyData.depth]; omega
theorem Lay.lst {k : Nat} {ds : List D} (h : ∀ d ∈ ds, Lay k d) : Lay (k + 1) (.list ds) := by
  obtain ⟨h1, h2⟩ := Lay.all h
  constructor
  · simp [PyData.canLay0, h1]
  · simp only [PyData.depth]; omega
theorem Lay.int (k : Nat) (i : Int) : Lay k (.int i) := ⟨by simp [PyData.canLay0], by simp [PyData.depth]⟩
theorem Lay.str {k : Nat} {u : Str} (h : eqOk (.str u) = true) : Lay k (.str u) := by
  have h : ((PyData.str u).canLay0 && decide ((PyData.str u).depth ≤ 64)) = true := h
  rw [Bool.and_eq_true] at h
  exact ⟨h.1, by simp [PyData.depth]⟩
theorem enc_lay (a : Item) : Lay 1 a.enc := by
  refine Lay.tup (k := 0) (ds := match a with
    | .box n => [.str s_box, .int n]
    | .gap n => [.str s_gap, .int n]
    | .cut n f => [.str s_cut, .int n, .int f]
    | .stop => [.str s_stop]) ?_ |> fun h => (by cases a <;> exact h)
  intro d hd
  cases a <;> simp at hd
  · rcases hd with rfl | rfl
    · exact Lay.str ok_box
    · exact Lay.int _ _
  · rcases hd with rfl | rfl
    · exact Lay.str ok_gap
    · exact Lay.int _ _
  · rcases hd with rfl | rfl | rfl
    · exact Lay.str ok_cut
    · exact Lay.int _ _
    · exact Lay.int _ _
  · subst hd; exact Lay.str ok_stop
theorem enc_ok (a : Item) : eqOk a.enc = true := (enc_lay a).ok (by decide)
theorem eq_item (a b : Item) : cmpV .eq (.dat a.enc) (.dat b.enc) = some (decide (a = b)) := by
  show (if (eqOk a.enc && eqOk b.enc) = true then some (PyData.eqv a.enc b.enc) else none) = _
  rw [enc_ok, enc_ok, enc_eqv]
  rfl
section
variable {call : Str → List Ev.Slot → FRes} {δ δ1 δ2 δ3 : Sts} {c x y z : E} {a b ss : Ss} {r : RV} {k : Bool} {cl : Str}
theorem item_s {i w : Nat} {p : List Item} {t : Item} (h : getS δ w = .dat (par p)) (hi : evE call y δ = .ok (.dat (.int i)) δ) (ht : p[i]? = some t) : evE call (.sub (.var w) y) δ = .ok (.dat t.enc) δ := by
  refine sub_s (dx := par p) (dk := .int i) (var_d h) hi ?_
  show (L2.atI (p.map Item.enc) (i : Int)).map RV.dat = _
  rw [L2.atI_nat (v := t.enc) (by rw [List.getElem?_map, ht]; rfl)]
  rfl
theorem for_s {tg : Tg} {it : It} {ds : List D} (hi : evI call it δ = .ok ds δ1) (hf : forF (fun d δ => match asgD tg d δ with
      | some δ => evSs call b δ
      | none => .stuck) ds δ1 = .next δ2) : evSs call (.cons (.for tg it b) ss) δ = evSs call ss δ2 := by
  show (match (evI call it δ).flow fun ds δ => forF (fun d δ => match asgD tg d δ with
      | some δ => evSs call b δ
      | none => .stuck) ds δ with
    | .next δ => evSs call ss δ
    | f => f) = _
  rw [hi]
  show (match forF (fun d δ => match asgD tg d δ with
      | some δ => evSs call b δ
      | none => .stuck) ds δ1 with
    | .next δ => evSs call ss δ
    | f => f) = _
  rw [hf]
end
theorem range_get (a c : Int) : ∀ (n i : Nat) (d : D), (rangeL a c n)[i]? = some d → i < n ∧ d = .int (a + c * i)
  | 0, i, d, h => by simp [rangeL] at h
  | n + 1, 0, d, h => by
    have h : some (PyData.int a) = some d := h
    refine ⟨Nat.succ_pos _, ?_⟩
    injection h with h
    rw [← h]; simp
  | n + 1, i + 1, d, h => by
    obtain ⟨h1, h2⟩ := range_get (a + c) c n i d h
    refine ⟨Nat.succ_lt_succ h1, ?_⟩
    rw [h2]
    congr 1
    have : ((i + 1 : Nat) : Int) = (i : Int) + 1 := by omega
    rw [this, Int.mul_add]; omega
theorem range_len (a c : Int) : ∀ n : Nat, (rangeL a c n).length = n
  | 0 => rfl
  | n + 1 => by simp [rangeL, range_len (a + c) c n]
/-! ### the table -/
def minL : List Int → Int
  | [] => 0
  | m :: r => minI m r
/-- what is put in at i, j -/
def pA (xs : List Item) (f : Nat → Nat → Int) (i j : Nat) : List D := if i < xs.length then [.int (f (i + 1) j + 1)] else []
def pB (ys : List Item) (f : Nat → Nat → Int) (i j : Nat) : List D := if j < ys.length then [.int (f i (j + 1) + 1)] else []
def pC (xs ys : List Item) (f : Nat → Nat → Int) (i j : Nat) : List D := if i < xs.length ∧ j < ys.length ∧ xs[i]? = ys[j]? then [.int (f (i + 1) (j + 1))] else []
abbrev FS (xs ys : List Item) (f : Nat → Nat → Int) (i j : Nat) (L : List D) (s : Ev.Slot) : Sts := [.dat (par xs), .dat (par ys), .rows (Tab f (xs.length + 1) (ys.length + 1)), .dat (.int i), .dat (.int j), .lst L, s]
section
variable {call : Str → List Ev.Slot → FRes} {xs ys : List Item} {f : Nat → Nat → Int} {i j : Nat} {L : List D} {s : Ev.Slot} {ss : Ss}
theorem var_p (h : i < xs.length ∨ True) : evE call (.bin .add (.var 3) (.cst (.int 1))) (FS xs ys f i j L s) = .ok (.dat (.int ((i + 1 : Nat) : Int))) (FS xs ys f i j L s) := add_i (i := (i : Int)) (j := 1) (var_d rfl) rfl
theorem lt_i : evT call (.cmp .lt (.var 3) (.bi .len (.cons (.var 0) .nil))) (FS xs ys f i j L s) = .ok (decide (i < xs.length)) (FS xs ys f i j L s) := by
  rw [lt_t (i := (i : Int)) (j := ((xs.map Item.enc).length : Nat)) (var_d rfl) (len_d (ds := xs.map Item.enc) rfl), par_len]
  congr 1
  simp
theorem lt_j : evT call (.cmp .lt (.var 4) (.bi .len (.cons (.var 1) .nil))) (FS xs ys f i j L s) = .ok (decide (j < ys.length)) (FS xs ys f i j L s) := by
  rw [lt_t (i := (j : Int)) (j := ((ys.map Item.enc).length : Nat)) (var_d rfl) (len_d (ds := ys.map Item.enc) rfl), par_len]
  congr 1
  simp
theorem far_a (hj : j ≤ ys.length) (hL : L.length < line) : evSs call (.cons (.ite (.cmp .lt (.var 3) (.bi .len (.cons (.var 0) .nil))) (.cons (.app 5 (.bin .add (.sub (.sub (.var 2) (.bin .add (.var 3) (.cst (.int 1)))) (.var 4)) (.cst (.int 1)))) .nil) .nil) ss) (FS xs ys f i j L s) = evSs call ss (FS xs ys f i j (L ++ pA xs f i j) s) := by
  unfold pA
  by_cases h : i < xs.length
  · rw [if_pos h, ite_t (lt_i.trans (by rw [decide_eq_true h]))]
    rw [app_s (ds := L) rfl (add_i (j := 1) (rows_s (f := f) (M := xs.length + 1) (N := ys.length + 1) (i := i + 1) (j := j) rfl rfl (var_p (Or.inr trivial)) (var_d rfl) (by omega) (by omega)) rfl) hL]
    rfl
  · rw [if_neg h, ite_f (δ2 := FS xs ys f i j L s) (lt_i.trans (by rw [decide_eq_false h])) rfl, List.append_nil]
theorem far_b (hi : i ≤ xs.length) (hL : L.length < line) : evSs call (.cons (.ite (.cmp .lt (.var 4) (.bi .len (.cons (.var 1) .nil))) (.cons (.app 5 (.bin .add (.sub (.sub (.var 2) (.var 3)) (.bin .add (.var 4) (.cst (.int 1)))) (.cst (.int 1)))) .nil) .nil) ss) (FS xs ys f i j L s) = evSs call ss (FS xs ys f i j (L ++ pB ys f i j) s) := by
  unfold pB
  by_cases h : j < ys.length
  · rw [if_pos h, ite_t (lt_j.trans (by rw [decide_eq_true h]))]
    rw [app_s (ds := L) rfl (add_i (j := 1) (rows_s (f := f) (M := xs.length + 1) (N := ys.length + 1) (i := i) (j := j + 1) rfl rfl (var_d rfl) (add_i (i := (j : Int)) (j := 1) (var_d rfl) rfl) (by omega) (by omega)) rfl) hL]
    rfl
  · rw [if_neg h, ite_f (δ2 := FS xs ys f i j L s) (lt_j.trans (by rw [decide_eq_false h])) rfl, List.append_nil]
theorem far_c (hL : L.length < line) : evSs call (.cons (.ite (.and (.cmp .lt (.var 3) (.bi .len (.cons (.var 0) .nil))) (.and (.cmp .lt (.var 4) (.bi .len (.cons (.var 1) .nil))) (.cmp .eq (.sub (.var 0) (.var 3)) (.sub (.var 1) (.var 4))))) (.cons (.app 5 (.sub (.sub (.var 2) (.bin .add (.var 3) (.cst (.int 1)))) (.bin .add (.var 4) (.cst (.int 1))))) .nil) .nil) ss) (FS xs ys f i j L s) = evSs call ss (FS xs ys f i j (L ++ pC xs ys f i j) s) := by
  unfold pC
  by_cases h : i < xs.length
  · by_cases h2 : j < ys.length
    · have hx : xs[i]? = some xs[i] := List.getElem?_eq_getElem h
      have hy : ys[j]? = some ys[j] := List.getElem?_eq_getElem h2
      have hc : evT call (.cmp .eq (.sub (.var 0) (.var 3)) (.sub (.var 1) (.var 4))) (FS xs ys f i j L s) = .ok (decide (xs[i] = ys[j])) (FS xs ys f i j L s) :=
        cmp_t (cmp_s (item_s rfl (var_d rfl) hx) (item_s rfl (var_d rfl) hy) (eq_item _ _))
      have hc2 := and_t (lt_i.trans (by rw [decide_eq_true h])) (and_t (lt_j.trans (by rw [decide_eq_true h2])) hc)
      by_cases h3 : xs[i] = ys[j]
      · rw [if_pos ⟨h, h2, by rw [hx, hy, h3]⟩, ite_t (hc2.trans (by rw [decide_eq_true h3]))]
        rw [app_s (ds := L) rfl (rows_s (f := f) (M := xs.length + 1) (N := ys.length + 1) (i := i + 1) (j := j + 1) rfl rfl (var_p (Or.inr trivial)) (add_i (i := (j : Int)) (j := 1) (var_d rfl) rfl) (by omega) (by omega)) hL]
        rfl
      · rw [if_neg (fun ⟨_, _, e⟩ => h3 (by rw [hx, hy] at e; injection e)), ite_f (δ2 := FS xs ys f i j L s) (hc2.trans (by rw [decide_eq_false h3])) rfl, List.append_nil]
    · rw [if_neg (fun ⟨_, e, _⟩ => h2 e), ite_f (δ2 := FS xs ys f i j L s) (and_t (lt_i.trans (by rw [decide_eq_true h])) (and_f (lt_j.trans (by rw [decide_eq_false h2])))) rfl, List.append_nil]
  · rw [if_neg (fun ⟨e, _⟩ => h e), ite_f (δ2 := FS xs ys f i j L s) (and_f (lt_i.trans (by rw [decide_eq_false h]))) rfl, List.append_nil]
end
end Pl

set_option Elab.async false
set_option linter.all false
set_option maxRecDepth 100000
set_option maxHeartbeats 1000000
/-! The plain law of k91: far_behind, the whole. -/
namespace Pl
open PySem Ev Core88
def Done (xs ys : List Item) (f : Nat → Nat → Int) (i j : Nat) : Prop := ∀ a b, a ≤ xs.length → b ≤ ys.length → (i < a ∨ (a = i ∧ j ≤ b)) → f a b = (ed (xs.drop a) (ys.drop b) : Nat)
theorem ed_eq {x y : Item} {xs ys : List Item} (h : x = y) : ed (x :: xs) (y :: ys) = min (min (ed xs (y :: ys) + 1) (ed (x :: xs) ys + 1)) (ed xs ys) := by
  rw [ed, if_pos h]
theorem ed_ne {x y : Item} {xs ys : List Item} (h : x ≠ y) : ed (x :: xs) (y :: ys) = min (ed xs (y :: ys) + 1) (ed (x :: xs) ys + 1) := by
  rw [ed, if_neg h]
theorem cell {xs ys : List Item} {f : Nat → Nat → Int} {i j : Nat} (h : Done xs ys f i (j + 1)) (hi : i ≤ xs.length) (hj : j ≤ ys.length) : ∃ ns : List Int, pA xs f i j ++ pB ys f i j ++ pC xs ys f i j = ns.map PyData.int ∧ minL ns = (ed (xs.drop i) (ys.drop j) : Nat) := by
  by_cases h1 : i < xs.length
  · have e1 : xs.drop i = xs[i] :: xs.drop (i + 1) := List.drop_eq_getElem_cons h1
    by_cases h2 : j < ys.length
    · have e2 : ys.drop j = ys[j] :: ys.drop (j + 1) := List.drop_eq_getElem_cons h2
      have fA := h (i + 1) j (by omega) (by omega) (Or.inl (by omega))
      have fB := h i (j + 1) (by omega) (by omega) (Or.inr ⟨rfl, by omega⟩)
      have fC := h (i + 1) (j + 1) (by omega) (by omega) (Or.inl (by omega))
      have hx : xs[i]? = some xs[i] := List.getElem?_eq_getElem h1
      have hy : ys[j]? = some ys[j] := List.getElem?_eq_getElem h2
      rw [e1] at fB ⊢
      rw [e2] at fA ⊢
      by_cases h3 : xs[i] = ys[j]
      · refine ⟨[f (i + 1) j + 1, f i (j + 1) + 1, f (i + 1) (j + 1)], ?_, ?_⟩
        · unfold pA pB pC
          rw [if_pos h1, if_pos h2, if_pos ⟨h1, h2, by rw [hx, hy, h3]⟩]
          rfl
        · rw [fA, fB, fC]
          rw [ed_eq h3]
          generalize ed (xs.drop (i + 1)) (ys[j] :: ys.drop (j + 1)) = A
          generalize ed (xs[i] :: xs.drop (i + 1)) (ys.drop (j + 1)) = B
          generalize ed (xs.drop (i + 1)) (ys.drop (j + 1)) = C
          simp only [minL, minI, Nat.min_def]
          repeat' split
          all_goals omega
      · refine ⟨[f (i + 1) j + 1, f i (j + 1) + 1], ?_, ?_⟩
        · unfold pA pB pC
          rw [if_pos h1, if_pos h2, if_neg (fun ⟨_, _, e⟩ => h3 (by rw [hx, hy] at e; injection e))]
          rfl
        · rw [fA, fB]
          rw [ed_ne h3]
          generalize ed (xs.drop (i + 1)) (ys[j] :: ys.drop (j + 1)) = A
          generalize ed (xs[i] :: xs.drop (i + 1)) (ys.drop (j + 1)) = B
          simp only [minL, minI, Nat.min_def]
          repeat' split
          all_goals omega
    · have e2 : ys.drop j = [] := List.drop_eq_nil_of_le (by omega)
      have fA := h (i + 1) j (by omega) (by omega) (Or.inl (by omega))
      rw [e2, ed_nil] at fA ⊢
      refine ⟨[f (i + 1) j + 1], ?_, ?_⟩
      · unfold pA pB pC
        rw [if_pos h1, if_neg h2, if_neg (fun ⟨_, e, _⟩ => h2 e)]
        rfl
      · rw [fA, e1]
        simp [minL, minI]
        omega
  · have e1 : xs.drop i = [] := List.drop_eq_nil_of_le (by omega)
    have ed0 : ∀ zs, ed [] zs = zs.length := fun zs => by simp [ed]
    by_cases h2 : j < ys.length
    · have e2 : ys.drop j = ys[j] :: ys.drop (j + 1) := List.drop_eq_getElem_cons h2
      have fB := h i (j + 1) (by omega) (by omega) (Or.inr ⟨rfl, by omega⟩)
      rw [e1, ed0] at fB ⊢
      refine ⟨[f i (j + 1) + 1], ?_, ?_⟩
      · unfold pA pB pC
        rw [if_neg h1, if_pos h2, if_neg (fun ⟨e, _⟩ => h1 e)]
        rfl
      · rw [fB, e2]
        simp [minL, minI]
        omega
    · have e2 : ys.drop j = [] := List.drop_eq_nil_of_le (by omega)
      rw [e1, e2]
      refine ⟨[], ?_, by simp [minL, ed]⟩
      unfold pA pB pC
      rw [if_neg h1, if_neg h2, if_neg (fun ⟨e, _⟩ => h1 e)]
      rfl
theorem Done.upd {xs ys : List Item} {f : Nat → Nat → Int} {i j : Nat} (h : Done xs ys f i (j + 1)) : Done xs ys (upd2 f i j (ed (xs.drop i) (ys.drop j) : Nat)) i j := by
  intro a b ha hb hab
  unfold upd2
  by_cases h1 : a = i
  · subst h1
    rw [if_pos rfl]
    unfold upd1
    by_cases h2 : b = j
    · subst h2; rw [if_pos rfl]
    · rw [if_neg h2]
      exact h a b ha hb (Or.inr ⟨rfl, by omega⟩)
  · rw [if_neg h1]
    exact h a b ha hb (Or.inl (by omega))
theorem ixN_n {n j : Nat} (h : j < n) : L2.ixN n (j : Int) = some j := by
  unfold L2.ixN
  rw [if_pos (by omega), if_pos (by omega)]
  simp
theorem intsOf_map : ∀ ns : List Int, intsOf (ns.map PyData.int) = some ns
  | [] => rfl
  | n :: ns => by
    show (intsOf (ns.map PyData.int)).map (n :: ·) = _
    rw [intsOf_map ns]
    rfl
section
variable {call : Str → List Ev.Slot → FRes} {δ δ1 δ2 δ3 : Sts} {c x y z : E} {a b ss : Ss} {r : RV} {k : Bool} {cl : Str}
theorem min_l {i : Nat} {n : Int} {ns : List Int} (h : getS δ i = .lst ((n :: ns).map PyData.int)) : evE call (.bi .min (.cons (.var i) .nil)) δ = .ok (.dat (.int (minI n ns))) δ := by
  have hv : evE call (.var i) δ = .ok (.loc i) δ := by
    show kVar i δ = _
    unfold kVar
    rw [h]
  show kBi .min (kVs true (evE call (.var i)) (kConst [])) δ = _
  unfold kBi kVs
  rw [hv]
  show Res.ofOpt (minV (getS δ i)) δ = _
  rw [h]
  show Res.ofOpt (match intsOf ((n :: ns).map PyData.int) with
    | some (n :: ns) => some (RV.dat (.int (minI n ns)))
    | _ => none) δ = _
  rw [intsOf_map]
  rfl
theorem ite_et (h : evT call c δ = .ok true δ1) (h2 : evE call x δ1 = .ok r δ2) : evE call (.ite c x y) δ = .ok r δ2 := by
  show (evT call c δ).bind (fun k δ => if k then evE call x δ else evE call y δ) = _
  rw [h]
  exact h2
theorem ite_ef (h : evT call c δ = .ok false δ1) (h2 : evE call y δ1 = .ok r δ2) : evE call (.ite c x y) δ = .ok r δ2 := by
  show (evT call c δ).bind (fun k δ => if k then evE call x δ else evE call y δ) = _
  rw [h]
  exact h2
theorem setSub2_s {w : Nat} {f : Nat → Nat → Int} {M N i j : Nat} {v : Int} (hq : z.quiet = true) (h2 : getS δ w = .rows (Tab f M N)) (hv : evE call x δ = .ok (.dat (.int v)) δ) (hi : evE call y δ = .ok (.dat (.int i)) δ) (hj : evE call z δ = .ok (.dat (.int j)) δ) (bi : i < M) (bj : j < N) : evSs call (.cons (.setSub2 w y z x) ss) δ = evSs call ss (δ.set w (.rows (Tab (upd2 f i j v) M N))) := by
  have h1 : evS call (.setSub2 w y z x) δ = .next (δ.set w (.rows (Tab (upd2 f i j v) M N))) := by
    have hh : hasS δ w = true := by unfold hasS; rw [h2]
    show ((evE call x δ).flow fun r δ => (Ev.settle r δ).flow fun d δ => if hasS δ w then
      (evE call y δ).flow fun ri δ => (match ri, getS δ w with
        | .dat (.int a), .rows dss => if (L2.atI dss a).isSome && z.quiet then (evE call z δ).flow fun rj δ => (match rj, getS δ w with
          | .dat (.int b), .rows dss => Ev.Flow.ofOpt ((L2.ixN dss.length a).bind fun n => (dss[n]?).bind fun ds => (setIn ds b d).map fun ds => δ.set w (.rows (dss.set n ds)))
          | _, _ => .stuck) else .stuck
        | _, _ => .stuck) else .stuck) = _
    rw [hv]
    show (if hasS δ w then
      (evE call y δ).flow fun ri δ => (match ri, getS δ w with
        | .dat (.int a), .rows dss => if (L2.atI dss a).isSome && z.quiet then (evE call z δ).flow fun rj δ => (match rj, getS δ w with
          | .dat (.int b), .rows dss => Ev.Flow.ofOpt ((L2.ixN dss.length a).bind fun n => (dss[n]?).bind fun ds => (setIn ds b (.int v)).map fun ds => δ.set w (.rows (dss.set n ds)))
          | _, _ => .stuck) else .stuck
        | _, _ => .stuck) else .stuck) = _
    rw [if_pos hh, hi]
    show (match RV.dat (.int (i : Int)), getS δ w with
        | .dat (.int a), .rows dss => if (L2.atI dss a).isSome && z.quiet then (evE call z δ).flow fun rj δ => (match rj, getS δ w with
          | .dat (.int b), .rows dss => Ev.Flow.ofOpt ((L2.ixN dss.length a).bind fun n => (dss[n]?).bind fun ds => (setIn ds b (.int v)).map fun ds => δ.set w (.rows (dss.set n ds)))
          | _, _ => .stuck) else .stuck
        | _, _ => .stuck) = _
    rw [h2]
    show (if (L2.atI (Tab f M N) (i : Int)).isSome && z.quiet then (evE call z δ).flow fun rj δ => (match rj, getS δ w with
          | .dat (.int b), .rows dss => Ev.Flow.ofOpt ((L2.ixN dss.length (i : Int)).bind fun n => (dss[n]?).bind fun ds => (setIn ds b (.int v)).map fun ds => δ.set w (.rows (dss.set n ds)))
          | _, _ => .stuck) else .stuck) = _
    rw [L2.atI_nat (Tab_get f bi), hq]
    show ((evE call z δ).flow fun rj δ => (match rj, getS δ w with
          | .dat (.int b), .rows dss => Ev.Flow.ofOpt ((L2.ixN dss.length (i : Int)).bind fun n => (dss[n]?).bind fun ds => (setIn ds b (.int v)).map fun ds => δ.set w (.rows (dss.set n ds)))
          | _, _ => .stuck)) = _
    rw [hj]
    show (match RV.dat (.int (j : Int)), getS δ w with
          | .dat (.int b), .rows dss => Ev.Flow.ofOpt ((L2.ixN dss.length (i : Int)).bind fun n => (dss[n]?).bind fun ds => (setIn ds b (.int v)).map fun ds => δ.set w (.rows (dss.set n ds)))
          | _, _ => .stuck) = _
    rw [h2]
    show Ev.Flow.ofOpt ((L2.ixN (Tab f M N).length (i : Int)).bind fun n => ((Tab f M N)[n]?).bind fun ds => (setIn ds (j : Int) (.int v)).map fun ds => δ.set w (.rows ((Tab f M N).set n ds))) = _
    rw [Tab_len, ixN_n bi]
    show Ev.Flow.ofOpt (((Tab f M N)[i]?).bind fun ds => (setIn ds (j : Int) (.int v)).map fun ds => δ.set w (.rows ((Tab f M N).set i ds))) = _
    rw [Tab_get f bi]
    show Ev.Flow.ofOpt (((L2.ixN (row (f i) N).length (j : Int)).map fun q => (row (f i) N).set q (.int v)).map fun ds => δ.set w (.rows ((Tab f M N).set i ds))) = _
    rw [row_len, ixN_n bj]
    show Ev.Flow.next (δ.set w (.rows ((Tab f M N).set i ((row (f i) N).set j (.int v))))) = _
    rw [row_set, Tab_set]
  show (match evS call (.setSub2 w y z x) δ with
    | .next δ => evSs call ss δ
    | f => f) = _
  rw [h1]
end
section
variable {call : Str → List Ev.Slot → FRes} {xs ys : List Item} {f : Nat → Nat → Int} {i j : Nat} {L : List D} {s u : Ev.Slot} {ss : Ss}
theorem far_v {ns : List Int} : evE call (.ite (.cmp .gt (.bi .len (.cons (.var 5) .nil)) (.cst (.int 0))) (.bi .min (.cons (.var 5) .nil)) (.cst (.int 0))) (FS xs ys f i j (ns.map PyData.int) s) = .ok (.dat (.int (minL ns))) (FS xs ys f i j (ns.map PyData.int) s) := by
  have h := gt_t (call := call) (x := .bi .len (.cons (.var 5) .nil)) (y := .cst (.int 0)) (j := 0) (len_l (δ := FS xs ys f i j (ns.map PyData.int) s) (i := 5) (ds := ns.map PyData.int) rfl) rfl
  cases ns with
  | nil => exact ite_ef h rfl
  | cons n ns => exact ite_et (h.trans (by rw [decide_eq_true (by simp)])) (min_l rfl)
end
end Pl

set_option Elab.async false
set_option linter.all false
set_option maxRecDepth 100000
set_option maxHeartbeats 1000000
/-! The plain law of k91: far_behind, its answer. -/
namespace Pl
open PySem Ev Core88
theorem in62_n {n : Nat} (hn : n ≤ 1000) : in62 (n : Int) = true := by
  unfold in62
  rw [Bool.and_eq_true, decide_eq_true_eq, decide_eq_true_eq]
  omega
theorem kInt_s {m : M RV} {δ : Sts} {i : Int} (h : m δ = .ok (.dat (.int i)) δ) (hi : in62 i = true) : kInt m δ = .ok i δ := by
  unfold kInt
  rw [h]
  show (if in62 i = true then Res.ok i δ else .stuck) = _
  rw [if_pos hi]
theorem range3_s {call : Str → List Ev.Slot → FRes} {δ : Sts} {x : E} {n : Nat} (h : evE call x δ = .ok (.dat (.int n)) δ) (hn : n ≤ 1000) : evI call (.range3 x (.neg (.cst (.int 1))) (.neg (.cst (.int 1)))) δ = .ok (rangeL n (-1) (n + 1)) δ := by
  have h1 : kInt (evE call x) δ = .ok (n : Int) δ := kInt_s h (in62_n hn)
  show (kInt (evE call x) δ).bind (fun m δ => (kInt (evE call (.neg (.cst (.int 1)))) δ).bind fun n δ => (kInt (evE call (.neg (.cst (.int 1)))) δ).bind fun k δ => if k == -1 then .ok (rangeL m (-1) (m - n).toNat) δ else .stuck) = _
  rw [h1]
  show Res.ok (rangeL (n : Int) (-1) ((n : Int) - (-1)).toNat) δ = _
  rw [show ((n : Int) - (-1)).toNat = n + 1 by omega]
theorem range1_s {call : Str → List Ev.Slot → FRes} {δ : Sts} {x : E} {n : Nat} (h : evE call x δ = .ok (.dat (.int n)) δ) (hn : n ≤ 1000) : evI call (.range1 x) δ = .ok (rangeL 0 1 n) δ := by
  have h1 : kInt (evE call x) δ = .ok (n : Int) δ := kInt_s h (in62_n hn)
  show (kInt (evE call x) δ).bind (fun n δ => .ok (rangeL 0 1 n.toNat) δ) = _
  rw [h1]
  rfl
theorem len_p {call : Str → List Ev.Slot → FRes} {δ : Sts} {w : Nat} {p : List Item} (h : getS δ w = .dat (par p)) : evE call (.bi .len (.cons (.var w) .nil)) δ = .ok (.dat (.int p.length)) δ := by
  rw [len_d (ds := p.map Item.enc) h, par_len]
section
variable {call : Str → List Ev.Slot → FRes} {xs ys : List Item} {s : Ev.Slot}
end
end Pl

set_option Elab.async false
set_option linter.all false
set_option maxRecDepth 100000
set_option maxHeartbeats 1000000
/-! The plain law of k91: far_behind, called. -/
namespace Pl
open PySem Ev Core88
theorem compR_const {step : D → Sts → Res (List D)} {I : Sts → Prop} {y : List D} : ∀ (ds : List D) (acc : List (List D)) (δ : Sts), (∀ d ∈ ds, ∀ δ, I δ → ∃ δ', step d δ = .ok y δ' ∧ I δ') → I δ → ∃ δ', compR step ds acc δ = .ok (acc ++ ds.map fun _ => y) δ' ∧ I δ'
  | [], acc, δ, _, h => ⟨δ, by simp [compR], h⟩
  | d :: ds, acc, δ, hs, h => by
    obtain ⟨δ1, e1, h1⟩ := hs d List.mem_cons_self δ h
    obtain ⟨δ2, e2, h2⟩ := compR_const ds (acc ++ [y]) δ1 (fun d' hd => hs d' (List.mem_cons_of_mem _ hd)) h1
    refine ⟨δ2, ?_, h2⟩
    unfold compR
    rw [e1]
    show compR step ds (acc ++ [y]) δ1 = _
    rw [e2]
    simp
theorem Tab_zero (m n : Nat) : (rangeL 0 1 m).map (fun _ => List.replicate n (PyData.int 0)) = Tab (fun _ _ => 0) m n := by
  have e : row (fun _ => 0) n = List.replicate n (PyData.int 0) := by
    unfold row
    rw [List.map_const', List.length_range]
  unfold Tab
  rw [List.map_const', List.map_const', range_len, List.length_range, e]
theorem rep0 (n : Nat) : repL [PyData.int 0] ((n : Int) + 1) = List.replicate (n + 1) (PyData.int 0) := by
  unfold repL
  rw [show ((n : Int) + 1).toNat = n + 1 by omega]
  exact List.flatten_replicate_singleton
theorem mul_l {a : List D} {k : Int} (h : (decide (-(2 ^ 63) ≤ k) && decide (k < 2 ^ 63) && okLen (a.length * k.toNat)) = true) : opV .mul (.lst a) (.dat (.int k)) = some (.own (.lst (repL a k))) := by
  unfold opV
  exact if_pos h
theorem mul_s {call : Str → List Ev.Slot → FRes} {δ : Sts} {x y : E} {a : List D} {k : Int} (h1 : evE call x δ = .ok (.own (.lst a)) δ) (h2 : evE call y δ = .ok (.dat (.int k)) δ) (h : (decide (-(2 ^ 63) ≤ k) && decide (k < 2 ^ 63) && okLen (a.length * k.toNat)) = true) : evE call (.bin .mul x y) δ = .ok (.own (.lst (repL a k))) δ := by
  show (evE call x δ).bind (fun ra δ1 => (evE call y δ1).bind fun rb δ2 => if innOk ra y.quiet then Res.ofOpt (fOp .mul (Ev.view ra δ2) (Ev.view rb δ2)) δ2 else .stuck) = _
  rw [h1]
  show (evE call y δ).bind (fun rb δ2 => if innOk (.own (.lst a)) y.quiet then Res.ofOpt (fOp .mul (Ev.view (.own (.lst a)) δ2) (Ev.view rb δ2)) δ2 else .stuck) = _
  rw [h2]
  show Res.ofOpt (opV .mul (.lst a) (.dat (.int k))) δ = _
  rw [mul_l h]
  rfl
theorem mul_ok {k : Nat} (h : k ≤ 1000) : (decide (-(2 ^ 63) ≤ ((k : Int) + 1)) && decide (((k : Int) + 1) < 2 ^ 63) && okLen ([PyData.int 0].length * ((k : Int) + 1).toNat)) = true := by
  rw [Bool.and_eq_true, Bool.and_eq_true, decide_eq_true_eq, decide_eq_true_eq]
  refine ⟨⟨by omega, by omega⟩, ?_⟩
  show Nat.ble (1 * _) 16777216 = true
  rw [Nat.ble_eq]
  omega
theorem far_row {call : Str → List Ev.Slot → FRes} {xs ys : List Item} {s : Ev.Slot} (hn : ys.length ≤ 1000) : evE call (.bin .mul (.lst (.cons (.cst (.int 0)) .nil)) (.bin .add (.bi .len (.cons (.var 1) .nil)) (.cst (.int 1)))) [.dat (par xs), .dat (par ys), .emp, .emp, .emp, .emp, s] = .ok (.own (.lst (List.replicate (ys.length + 1) (.int 0)))) [.dat (par xs), .dat (par ys), .emp, .emp, .emp, .emp, s] := by
  have h2 : evE call (.bin .add (.bi .len (.cons (.var 1) .nil)) (.cst (.int 1))) [.dat (par xs), .dat (par ys), .emp, .emp, .emp, .emp, s] = .ok (.dat (.int ((ys.length : Int) + 1))) [.dat (par xs), .dat (par ys), .emp, .emp, .emp, .emp, s] := add_i (len_p rfl) rfl
  have h1 := mul_s (call := call) (x := .lst (.cons (.cst (.int 0)) .nil)) (a := [.int 0]) rfl h2 (mul_ok hn)
  rw [rep0] at h1
  exact h1
theorem far_init {call : Str → List Ev.Slot → FRes} {xs ys : List Item} (hm : xs.length + 1 ≤ 1000) (hn : ys.length ≤ 1000) : evE call (.compR [6] (.nm 6) (.range1 (.bin .add (.bi .len (.cons (.var 0) .nil)) (.cst (.int 1)))) (.bin .mul (.lst (.cons (.cst (.int 0)) .nil)) (.bin .add (.bi .len (.cons (.var 1) .nil)) (.cst (.int 1))))) [.dat (par xs), .dat (par ys), .emp, .emp, .emp, .emp, .emp] = .ok (.own (.rows (Tab (fun _ _ => 0) (xs.length + 1) (ys.length + 1)))) [.dat (par xs), .dat (par ys), .emp, .emp, .emp, .emp, .emp] := by
  have hI : evI call (.range1 (.bin .add (.bi .len (.cons (.var 0) .nil)) (.cst (.int 1)))) [.dat (par xs), .dat (par ys), .emp, .emp, .emp, .emp, .emp] = .ok (rangeL 0 1 (xs.length + 1)) [.dat (par xs), .dat (par ys), .emp, .emp, .emp, .emp, .emp] :=
    range1_s (add_i (i := (xs.length : Int)) (j := 1) (len_p rfl) rfl) hm
  obtain ⟨δ', e1, s, rfl⟩ := compR_const (step := stepR [6] (.nm 6) (evE call (.bin .mul (.lst (.cons (.cst (.int 0)) .nil)) (.bin .add (.bi .len (.cons (.var 1) .nil)) (.cst (.int 1)))))) (I := fun δ => ∃ s, δ = [.dat (par xs), .dat (par ys), .emp, .emp, .emp, .emp, s]) (y := List.replicate (ys.length + 1) (.int 0)) (rangeL 0 1 (xs.length + 1)) [] [.dat (par xs), .dat (par ys), .emp, .emp, .emp, .emp, .emp] (by
    rintro d hd δ ⟨s, rfl⟩
    refine ⟨[.dat (par xs), .dat (par ys), .emp, .emp, .emp, .emp, .dat d], ?_, _, rfl⟩
    show (evE call (.bin .mul (.lst (.cons (.cst (.int 0)) .nil)) (.bin .add (.bi .len (.cons (.var 1) .nil)) (.cst (.int 1)))) [.dat (par xs), .dat (par ys), .emp, .emp, .emp, .emp, .dat d]).bind (fun r δ => match r with
      | .own (.lst ys) => .ok ys δ
      | _ => .stuck) = _
    rw [far_row hn]
    rfl) ⟨_, rfl⟩
  show kCompR [6] (.nm 6) (evI call (.range1 (.bin .add (.bi .len (.cons (.var 0) .nil)) (.cst (.int 1))))) (evE call (.bin .mul (.lst (.cons (.cst (.int 0)) .nil)) (.bin .add (.bi .len (.cons (.var 1) .nil)) (.cst (.int 1))))) _ = _
  unfold kCompR
  rw [hI]
  show (if (plainS [.dat (par xs), .dat (par ys), .emp, .emp, .emp, .emp, .emp] [6] && okLen (rangeL 0 1 (xs.length + 1)).length) = true then _ else _) = _
  rw [if_pos (by
    rw [range_len]
    show (true && Nat.ble (xs.length + 1) 16777216) = true
    rw [Bool.true_and, Nat.ble_eq]
    omega), e1, List.nil_append, Tab_zero]
  rfl
end Pl

set_option Elab.async false
set_option linter.all false
set_option maxRecDepth 100000
set_option maxHeartbeats 1000000
/-! The plain law of k91: scripts, their mathematics. -/
namespace Pl
open PySem Ev Core88
inductive Deed where
  | keep
  | out
  | put (a : Item)
  deriving DecidableEq
def scr : List Item → List Item → List Deed
  | [], [] => []
  | x :: xs, [] => .out :: scr xs []
  | [], y :: ys => .put y :: scr [] ys
  | x :: xs, y :: ys => if x = y ∧ ed (x :: xs) (y :: ys) = ed xs ys then .keep :: scr xs ys else if ed (x :: xs) (y :: ys) = ed xs (y :: ys) + 1 then .out :: scr xs (y :: ys) else .put y :: scr (x :: xs) ys
termination_by xs ys => xs.length + ys.length
def led : List Item → List Deed → Option (List Item)
  | xs, .put a :: ds => (led xs ds).map (a :: ·)
  | [], [] => some []
  | _ :: _, [] => none
  | [], .keep :: _ => none
  | [], .out :: _ => none
  | x :: xs, .keep :: ds => (led xs ds).map (x :: ·)
  | x :: xs, .out :: ds => led xs ds
termination_by _ ds => ds.length
theorem led_scr : ∀ xs ys : List Item, led xs (scr xs ys) = some ys
  | [], [] => by simp [scr, led]
  | x :: xs, [] => by rw [scr, led, led_scr xs []]
  | [], y :: ys => by rw [scr, led, led_scr [] ys]; rfl
  | x :: xs, y :: ys => by
    rw [scr]
    by_cases h : x = y ∧ ed (x :: xs) (y :: ys) = ed xs ys
    · rw [if_pos h, led, led_scr xs ys, h.1]; rfl
    · rw [if_neg h]
      by_cases h2 : ed (x :: xs) (y :: ys) = ed xs (y :: ys) + 1
      · rw [if_pos h2, led, led_scr xs (y :: ys)]
      · rw [if_neg h2, led, led_scr (x :: xs) ys]; rfl
termination_by xs ys => xs.length + ys.length
/-- how many are kept -/
def kept (ds : List Deed) : Nat := (ds.filter (· = .keep)).length
/-- twice the kept ones and the distance make the lengths -/
theorem kept_scr : ∀ xs ys : List Item, 2 * kept (scr xs ys) + ed xs ys = xs.length + ys.length
  | [], [] => by simp [scr, ed, kept]
  | x :: xs, [] => by
    have h := kept_scr xs []
    rw [ed_nil] at h ⊢
    rw [scr]
    unfold kept at h ⊢
    simp at h ⊢
    omega
  | [], y :: ys => by
    have h := kept_scr [] ys
    rw [scr]
    unfold kept at h ⊢
    simp [ed] at h ⊢
    omega
  | x :: xs, y :: ys => by
    rw [scr]
    by_cases h : x = y ∧ ed (x :: xs) (y :: ys) = ed xs ys
    · rw [if_pos h, h.2]
      have h := kept_scr xs ys
      unfold kept at h ⊢
      simp at h ⊢
      omega
    · rw [if_neg h]
      by_cases h2 : ed (x :: xs) (y :: ys) = ed xs (y :: ys) + 1
      · rw [if_pos h2, h2]
        have h := kept_scr xs (y :: ys)
        unfold kept at h ⊢
        simp at h ⊢
        omega
      · rw [if_neg h2]
        have h3 := kept_scr (x :: xs) ys
        have h4 : ed (x :: xs) (y :: ys) = ed (x :: xs) ys + 1 := by
          by_cases e : x = y
          · have h5 : ed (x :: xs) (y :: ys) ≠ ed xs ys := fun e2 => h ⟨e, e2⟩
            rw [ed_eq e] at h2 h5 ⊢
            omega
          · rw [ed_ne e] at h2 ⊢
            omega
        rw [h4]
        unfold kept at h3 ⊢
        simp at h3 ⊢
        omega
termination_by xs ys => xs.length + ys.length
theorem scr_len : ∀ xs ys : List Item, (scr xs ys).length ≤ xs.length + ys.length
  | [], [] => by simp [scr]
  | x :: xs, [] => by
    have h := scr_len xs []
    rw [scr]; simp at h ⊢; omega
  | [], y :: ys => by
    have h := scr_len [] ys
    rw [scr]; simp at h ⊢; omega
  | x :: xs, y :: ys => by
    rw [scr]
    split
    · have h := scr_len xs ys
      simp at h ⊢; omega
    · split
      · have h := scr_len xs (y :: ys)
        simp at h ⊢; omega
      · have h := scr_len (x :: xs) ys
        simp at h ⊢; omega
termination_by xs ys => xs.length + ys.length
/-- the way back -/
def back : List Item → List Deed → List Deed
  | _, [] => []
  | xs, .put _ :: ds => .out :: back xs ds
  | x :: xs, .keep :: ds => .keep :: back xs ds
  | x :: xs, .out :: ds => .put x :: back xs ds
  | [], _ :: _ => []
termination_by _ ds => ds.length
theorem led_back : ∀ (xs : List Item) (ds : List Deed) (ys : List Item), led xs ds = some ys → led ys (back xs ds) = some xs
  | [], [], ys, h => by
    rw [led] at h; injection h with h; subst h
    simp [back, led]
  | x :: xs, [], ys, h => by rw [led] at h; cases h
  | xs, .put a :: ds, ys, h => by
    rw [led] at h
    cases e : led xs ds with
    | none => rw [e] at h; cases h
    | some zs =>
      rw [e] at h
      injection h with h; subst h
      rw [back, led]
      exact led_back xs ds zs e
  | [], .keep :: _, ys, h => by rw [led] at h; cases h
  | [], .out :: _, ys, h => by rw [led] at h; cases h
  | x :: xs, .keep :: ds, ys, h => by
    rw [led] at h
    cases e : led xs ds with
    | none => rw [e] at h; cases h
    | some zs =>
      rw [e] at h
      injection h with h; subst h
      rw [back, led, led_back xs ds zs e]; rfl
  | x :: xs, .out :: ds, ys, h => by
    rw [led] at h
    rw [back, led, led_back xs ds ys h]; rfl
termination_by _ ds => ds.length
end Pl

set_option Elab.async false
set_option linter.all false
set_option maxRecDepth 100000
set_option maxHeartbeats 1000000
/-! The plain law of k91: edits_many, common_many, raw_script, script_of. -/
namespace Pl
open PySem Ev Core88
theorem eq_int (a b : Int) : cmpV .eq (.dat (.int a)) (.dat (.int b)) = some (decide (a = b)) := by
  show some (PyData.eqv (.int a) (.int b)) = _
  congr 1
theorem ne_int (a b : Int) : cmpV .ne (.dat (.int a)) (.dat (.int b)) = some (!decide (a = b)) := by
  show (cmpV .eq (.dat (.int a)) (.dat (.int b))).map (!·) = _
  rw [eq_int]
  rfl
section
variable {call : Str → List Ev.Slot → FRes} {δ δ1 δ2 δ3 : Sts} {c x y z : E} {a b ss : Ss} {r : RV} {k : Bool} {cl : Str}
theorem own_rows_s {f : Nat → Nat → Int} {M N i j : Nat} (hq : z.quiet = true) (h2 : evE call x δ = .ok (.own (.rows (Tab f M N))) δ) (hi : evE call y δ = .ok (.dat (.int i)) δ) (hj : evE call z δ = .ok (.dat (.int j)) δ) (bi : i < M) (bj : j < N) : evE call (.sub (.sub x y) z) δ = .ok (.dat (.int (f i j))) δ := by
  have h1 : evE call (.sub x y) δ = .ok (.inn (row (f i) N)) δ := by
    show (evE call x δ).bind (fun ra δ1 => (evE call y δ1).bind fun rb δ2 => if innOk ra y.quiet then Res.ofOpt (subV (Ev.view ra δ2) (Ev.view rb δ2)) δ2 else .stuck) = _
    rw [h2]
    show (evE call y δ).bind (fun rb δ2 => if innOk (.own (.rows (Tab f M N))) y.quiet then Res.ofOpt (subV (Ev.view (.own (.rows (Tab f M N))) δ2) (Ev.view rb δ2)) δ2 else .stuck) = _
    rw [hi]
    show Res.ofOpt ((L2.atI (Tab f M N) (i : Int)).map RV.inn) δ = _
    rw [L2.atI_nat (Tab_get f bi)]
    rfl
  show (evE call (.sub x y) δ).bind (fun ra δ1 => (evE call z δ1).bind fun rb δ2 => if innOk ra z.quiet then Res.ofOpt (subV (Ev.view ra δ2) (Ev.view rb δ2)) δ2 else .stuck) = _
  rw [h1]
  show (evE call z δ).bind (fun rb δ2 => if innOk (.inn (row (f i) N)) z.quiet then Res.ofOpt (subV (Ev.view (.inn (row (f i) N)) δ2) (Ev.view rb δ2)) δ2 else .stuck) = _
  rw [hj]
  show (if z.quiet = true then Res.ofOpt (subV (.lst (row (f i) N)) (.dat (.int j))) δ else .stuck) = _
  rw [if_pos hq]
  show Res.ofOpt ((L2.atI (row (f i) N) (j : Int)).map RV.dat) δ = _
  rw [L2.atI_nat (row_get (f i) bj)]
  rfl
theorem eq_i {i j : Int} (h1 : evE call x δ = .ok (.dat (.int i)) δ) (h2 : evE call y δ = .ok (.dat (.int j)) δ) : evT call (.cmp .eq x y) δ = .ok (decide (i = j)) δ := cmp_t (cmp_s h1 h2 (eq_int i j))
theorem aug_s {i : Nat} {u v : Int} (h : getS δ i = .dat (.int u)) (hx : evE call x δ = .ok (.dat (.int v)) δ) : evSs call (.cons (.aug i .add x) ss) δ = evSs call ss (δ.set i (.dat (.int (u + v)))) := by
  have h1 : evS call (.aug i .add x) δ = .next (δ.set i (.dat (.int (u + v)))) := by
    show (match getS δ i with
      | .dat x' => (evE call x δ).flow fun r δ => (match r with
        | .dat y => (match augV .add x' y with
          | some z => .next (δ.set i (.dat z))
          | none => .stuck)
        | _ => .stuck)
      | _ => .stuck : Ev.Flow) = _
    rw [h]
    show ((evE call x δ).flow fun r δ => (match r with
        | .dat y => (match augV .add (.int u) y with
          | some z => .next (δ.set i (.dat z))
          | none => .stuck)
        | _ => .stuck) : Ev.Flow) = _
    rw [hx]
    rfl
  show (match evS call (.aug i .add x) δ with
    | .next δ => evSs call ss δ
    | f => f) = _
  rw [h1]
theorem par2_s {i j : Nat} {u v : D} (hx : evE call x δ = .ok (.dat u) δ) (hy : evE call y δ = .ok (.dat v) δ) : evSs call (.cons (.par [i, j] (.cons x (.cons y .nil))) ss) δ = evSs call ss ((δ.set i (.dat u)).set j (.dat v)) := by
  have h1 : evPar call (.cons x (.cons y .nil)) δ = .ok [.dat u, .dat v] δ := by
    show (evE call x δ).bind (fun r δ => match r with
      | .own s => (evPar call (.cons y .nil) δ).bind fun ss δ => .ok (s :: ss) δ
      | r => (Ev.settle r δ).bind fun d δ => (evPar call (.cons y .nil) δ).bind fun ss δ => .ok (.dat d :: ss) δ) = _
    rw [hx]
    show (evPar call (.cons y .nil) δ).bind (fun ss δ => .ok (.dat u :: ss) δ) = _
    have h2 : evPar call (.cons y .nil) δ = .ok [.dat v] δ := by
      show (evE call y δ).bind (fun r δ => match r with
        | .own s => (evPar call .nil δ).bind fun ss δ => .ok (s :: ss) δ
        | r => (Ev.settle r δ).bind fun d δ => (evPar call .nil δ).bind fun ss δ => .ok (.dat d :: ss) δ) = _
      rw [hy]
      rfl
    rw [h2]
    rfl
  show (match (evPar call (.cons x (.cons y .nil)) δ).flow fun ss δ => Ev.Flow.ofOpt (setSlots [i, j] ss δ) with
    | .next δ => evSs call ss δ
    | f => f) = _
  rw [h1]
  rfl
theorem while_s (h : whileF (evT call c) (evSs call b) fuel δ = .next δ1) : evSs call (.cons (.while c b) ss) δ = evSs call ss δ1 := by
  show (match whileF (evT call c) (evSs call b) fuel δ with
    | .next δ => evSs call ss δ
    | f => f) = _
  rw [h]
theorem or_k {k1 k2 : Bool} (h : evT call x δ = .ok k1 δ) (h2 : evT call y δ = .ok k2 δ) : evT call (.or x y) δ = .ok (k1 || k2) δ := by
  cases k1
  · exact or_f h h2
  · exact or_t h
end
end Pl

set_option Elab.async false
set_option linter.all false
set_option maxRecDepth 100000
set_option maxHeartbeats 1000000
/-! The evaluator as rules for simp: each step by its values, loops and comprehensions by their own names. -/
namespace Wk
open PySem Ev
/-! ### results -/
section
variable {α β : Type} {a : α} {δ : Sts} {c : Str}
@[simp] theorem bind_ok {f : α → Sts → Res β} : (Res.ok a δ).bind f = f a δ := (rfl)
@[simp] theorem bind_exc {f : α → Sts → Res β} : (Res.exc c δ : Res α).bind f = .exc c δ := (rfl)
@[simp] theorem bind_stuck {f : α → Sts → Res β} : (Res.stuck : Res α).bind f = .stuck := (rfl)
@[simp] theorem flow_ok {f : α → Sts → Ev.Flow} : (Res.ok a δ).flow f = f a δ := (rfl)
@[simp] theorem flow_exc {f : α → Sts → Ev.Flow} : (Res.exc c δ : Res α).flow f = .exc c δ := (rfl)
@[simp] theorem flow_stuck {f : α → Sts → Ev.Flow} : (Res.stuck : Res α).flow f = .stuck := (rfl)
@[simp] theorem ofOpt_some : (Res.ofOpt (some a) δ) = .ok a δ := (rfl)
@[simp] theorem ofOpt_none : (Res.ofOpt (none : Option α) δ) = .stuck := (rfl)
@[simp] theorem fofOpt_some : Ev.Flow.ofOpt (some δ) = .next δ := (rfl)
@[simp] theorem fofOpt_none : Ev.Flow.ofOpt none = .stuck := (rfl)
end
/-- one flow, then what comes behind it -/
def fseq (x : Ev.Flow) (f : Sts → Ev.Flow) : Ev.Flow := match x with
  | .next δ => f δ
  | x => x
@[simp] theorem fseq_next {δ : Sts} {f : Sts → Ev.Flow} : fseq (.next δ) f = f δ := (rfl)
@[simp] theorem fseq_ret {r : RV} {δ : Sts} {f : Sts → Ev.Flow} : fseq (.ret r δ) f = .ret r δ := (rfl)
@[simp] theorem fseq_exc {c : Str} {δ : Sts} {f : Sts → Ev.Flow} : fseq (.exc c δ) f = .exc c δ := (rfl)
@[simp] theorem fseq_brk {δ : Sts} {f : Sts → Ev.Flow} : fseq (.brk δ) f = .brk δ := (rfl)
@[simp] theorem fseq_cnt {δ : Sts} {f : Sts → Ev.Flow} : fseq (.cnt δ) f = .cnt δ := (rfl)
/-! ### slots and values -/
def rvS (s : Ev.Slot) (i : Nat) (δ : Sts) : Res RV := match s with
  | .emp => .stuck
  | .dat d => .ok (.dat d) δ
  | _ => .ok (.loc i) δ
section
variable {i j : Nat} {δ : Sts} {d : D} {ds : List D} {dss : List (List D)} {s : Ev.Slot}
@[simp] theorem rvS_dat : rvS (.dat d) i δ = .ok (.dat d) δ := (rfl)
@[simp] theorem rvS_lst : rvS (.lst ds) i δ = .ok (.loc i) δ := (rfl)
@[simp] theorem rvS_rows : rvS (.rows dss) i δ = .ok (.loc i) δ := (rfl)
@[simp] theorem rvS_dK {kvs} : rvS (.dK kvs) i δ = .ok (.loc i) δ := (rfl)
@[simp] theorem rvS_dT {kvs} : rvS (.dT kvs) i δ = .ok (.loc i) δ := (rfl)
@[simp] theorem rvS_scr {ns} : rvS (.scr ns) i δ = .ok (.loc i) δ := (rfl)
@[simp] theorem getS_0 : getS (s :: δ) 0 = s := (rfl)
@[simp] theorem getS_s : getS (s :: δ) (i + 1) = getS δ i := (rfl)
@[simp] theorem frz_dat : frz (.dat d) = some d := (rfl)
@[simp] theorem frz_lst : frz (.lst ds) = some (.list ds) := (rfl)
@[simp] theorem frz_rows : frz (.rows dss) = some (.list (dss.map PyData.list)) := (rfl)
@[simp] theorem view_dat : Ev.view (.dat d) δ = .dat d := (rfl)
@[simp] theorem view_own : Ev.view (.own s) δ = s := (rfl)
@[simp] theorem view_loc : Ev.view (.loc i) δ = getS δ i := (rfl)
@[simp] theorem view_inn : Ev.view (.inn ds) δ = .lst ds := (rfl)
@[simp] theorem settle_dat : Ev.settle (.dat d) δ = .ok d δ := (rfl)
@[simp] theorem settle_own : Ev.settle (.own s) δ = Res.ofOpt (frz s) δ := (rfl)
def settleL (s : Ev.Slot) (i : Nat) (δ : Sts) : Res D := match s with
  | .dat d => .ok d δ
  | s => match frz s with
      | some d => .ok d (δ.set i (.dat d))
      | none => .stuck
@[simp] theorem settle_loc : Ev.settle (.loc i) δ = settleL (getS δ i) i δ := (rfl)
@[simp] theorem settleL_lst : settleL (.lst ds) i δ = .ok (.list ds) (δ.set i (.dat (.list ds))) := (rfl)
@[simp] theorem settleL_dat : settleL (.dat d) i δ = .ok d δ := (rfl)
@[simp] theorem innOk_dat {q : Bool} : innOk (.dat d) q = true := (rfl)
@[simp] theorem innOk_own {q : Bool} : innOk (.own s) q = true := (rfl)
@[simp] theorem innOk_loc {q : Bool} : innOk (.loc i) q = true := (rfl)
@[simp] theorem innOk_inn {q : Bool} : innOk (.inn ds) q = q := (rfl)
@[simp] theorem isRet_dat : isRet (.dat d) = true := (rfl)
@[simp] theorem isRet_own : isRet (.own s) = true := (rfl)
@[simp] theorem hasS_eq : hasS δ i = (match getS δ i with
  | .emp => false
  | _ => true) := rfl
end
/-! ### expressions -/
/-- a call's end -/
def callK (fr : FRes) (rs : List RV) (δ : Sts) : Res RV := match fr with
    | .ret r back => if isRet r then (match giveBack rs back δ with
      | some δ' => .ok r δ'
      | none => .stuck) else .stuck
    | .exc c back => (match giveBack rs back δ with
      | some δ' => .exc c δ'
      | none => .stuck)
    | .stuck => .stuck
section
variable {call : Str → List Ev.Slot → FRes} {δ : Sts}
def compS (call : Str → List Ev.Slot → FRes) (own : List Nat) (tg : Tg) (it : It) (cs : Es) (elt : E) (δ : Sts) : Res RV := evE call (.comp own tg it cs elt) δ
def compRS (call : Str → List Ev.Slot → FRes) (own : List Nat) (tg : Tg) (it : It) (elt : E) (δ : Sts) : Res RV := evE call (.compR own tg it elt) δ
def tupK  (ds : List D) (δ : Sts) : Res RV := .ok (.dat (.tuple ds)) δ
@[simp] theorem tupK_eq {ds : List D} {δ : Sts} : tupK  ds δ = .ok (.dat (.tuple ds)) δ := (rfl)
def lstK  (ds : List D) (δ : Sts) : Res RV := .ok (.own (.lst ds)) δ
@[simp] theorem lstK_eq {ds : List D} {δ : Sts} : lstK  ds δ = .ok (.own (.lst ds)) δ := (rfl)
def binK2 (op : Op) (q : Bool) (ra : RV) (rb : RV) (δ : Sts) : Res RV := if innOk ra q then Res.ofOpt (opV op (Ev.view ra δ) (Ev.view rb δ)) δ else .stuck
@[simp] theorem binK2_eq {op : Op} {q : Bool} {ra : RV} {rb : RV} {δ : Sts} : binK2 op q ra rb δ = if innOk ra q then Res.ofOpt (opV op (Ev.view ra δ) (Ev.view rb δ)) δ else .stuck := (rfl)
def binK1 (call : Str → List Ev.Slot → FRes) (op : Op) (b : E) (ra : RV) (δ : Sts) : Res RV := (evE call b δ).bind (binK2 op b.quiet ra)
@[simp] theorem binK1_eq {call : Str → List Ev.Slot → FRes} {op : Op} {b : E} {ra : RV} {δ : Sts} : binK1 call op b ra δ = (evE call b δ).bind (binK2 op b.quiet ra) := (rfl)
def cmpK2 (op : Cmp) (q : Bool) (ra : RV) (rb : RV) (δ : Sts) : Res RV := if innOk ra q then Res.ofOpt ((cmpV op (Ev.view ra δ) (Ev.view rb δ)).map fun c => RV.dat (.bool c)) δ else .stuck
@[simp] theorem cmpK2_eq {op : Cmp} {q : Bool} {ra : RV} {rb : RV} {δ : Sts} : cmpK2 op q ra rb δ = if innOk ra q then Res.ofOpt ((cmpV op (Ev.view ra δ) (Ev.view rb δ)).map fun c => RV.dat (.bool c)) δ else .stuck := (rfl)
def cmpK1 (call : Str → List Ev.Slot → FRes) (op : Cmp) (b : E) (ra : RV) (δ : Sts) : Res RV := (evE call b δ).bind (cmpK2 op b.quiet ra)
@[simp] theorem cmpK1_eq {call : Str → List Ev.Slot → FRes} {op : Cmp} {b : E} {ra : RV} {δ : Sts} : cmpK1 call op b ra δ = (evE call b δ).bind (cmpK2 op b.quiet ra) := (rfl)
def subK2 (q : Bool) (ra : RV) (rb : RV) (δ : Sts) : Res RV := if innOk ra q then Res.ofOpt (subV (Ev.view ra δ) (Ev.view rb δ)) δ else .stuck
@[simp] theorem subK2_eq {q : Bool} {ra : RV} {rb : RV} {δ : Sts} : subK2 q ra rb δ = if innOk ra q then Res.ofOpt (subV (Ev.view ra δ) (Ev.view rb δ)) δ else .stuck := (rfl)
def subK1 (call : Str → List Ev.Slot → FRes) (b : E) (ra : RV) (δ : Sts) : Res RV := (evE call b δ).bind (subK2 b.quiet ra)
@[simp] theorem subK1_eq {call : Str → List Ev.Slot → FRes} {b : E} {ra : RV} {δ : Sts} : subK1 call b ra δ = (evE call b δ).bind (subK2 b.quiet ra) := (rfl)
@[simp] theorem ev_var {i : Nat} : evE call (.var i) δ = rvS (getS δ i) i δ := (rfl)
@[simp] theorem ev_cst {d : D} : evE call (.cst d) δ = .ok (.dat d) δ := (rfl)
@[simp] theorem ev_glb {x : Str} {d : D} : evE call (.glb x d) δ = .ok (.dat d) δ := (rfl)
@[simp] theorem ev_tup {es : Es} : evE call (.tup es) δ = (evDs call es δ).bind tupK := (rfl)
@[simp] theorem ev_lst {es : Es} : evE call (.lst es) δ = (evDs call es δ).bind lstK := (rfl)
@[simp] theorem ev_newK : evE call .newK δ = .ok (.own (.dK [])) δ := (rfl)
@[simp] theorem ev_newT : evE call .newT δ = .ok (.own (.dT [])) δ := (rfl)
@[simp] theorem ev_bin {op : Op} {a b : E} : evE call (.bin op a b) δ = (evE call a δ).bind (binK1 call op b) := (rfl)
@[simp] theorem ev_cmp {op : Cmp} {a b : E} : evE call (.cmp op a b) δ = (evE call a δ).bind (cmpK1 call op b) := (rfl)
@[simp] theorem ev_sub {a b : E} : evE call (.sub a b) δ = (evE call a δ).bind (subK1 call b) := (rfl)
def chainK (call : Str → List Ev.Slot → FRes) (o1 o2 : Cmp) (c : E) (ra rb : RV) (δ2 : Sts) : Res RV := match ra, rb with
  | .dat x, .dat y => (match cmpV o1 (.dat x) (.dat y) with
    | some true => (evE call c δ2).bind fun rc δ3 => (match rc with
      | .dat z => Res.ofOpt ((cmpV o2 (.dat y) (.dat z)).map fun c => .dat (.bool c)) δ3
      | _ => .stuck)
    | some false => .ok (.dat (.bool false)) δ2
    | none => .stuck)
  | _, _ => .stuck
def chainL (call : Str → List Ev.Slot → FRes) (o2 : Cmp) (c : E) (y : D) (b : Option Bool) (δ2 : Sts) : Res RV := match b with
    | some true => (evE call c δ2).bind fun rc δ3 => (match rc with
      | .dat z => Res.ofOpt ((cmpV o2 (.dat y) (.dat z)).map fun c => .dat (.bool c)) δ3
      | _ => .stuck)
    | some false => .ok (.dat (.bool false)) δ2
    | none => .stuck
def chK1 (call : Str → List Ev.Slot → FRes) (o1 : Cmp) (o2 : Cmp) (b : E) (c : E) (ra : RV) (δ : Sts) : Res RV := (evE call b δ).bind (chainK call o1 o2 c ra)
@[simp] theorem chK1_eq {call : Str → List Ev.Slot → FRes} {o1 : Cmp} {o2 : Cmp} {b : E} {c : E} {ra : RV} {δ : Sts} : chK1 call o1 o2 b c ra δ = (evE call b δ).bind (chainK call o1 o2 c ra) := (rfl)
@[simp] theorem ev_chain {o1 o2 : Cmp} {a b c : E} : evE call (.chain o1 o2 a b c) δ = (evE call a δ).bind (chK1 call o1 o2 b c) := (rfl)
@[simp] theorem chainK_dat {o1 o2 : Cmp} {c : E} {x y : D} : chainK call o1 o2 c (.dat x) (.dat y) δ = chainL call o2 c y (cmpV o1 (.dat x) (.dat y)) δ := (rfl)
def chainM (o2 : Cmp) (y : D) (rc : RV) (δ3 : Sts) : Res RV := match rc with
      | .dat z => Res.ofOpt ((cmpV o2 (.dat y) (.dat z)).map fun c => .dat (.bool c)) δ3
      | _ => .stuck
@[simp] theorem chainM_dat {o2 : Cmp} {y z : D} : chainM o2 y (.dat z) δ = Res.ofOpt ((cmpV o2 (.dat y) (.dat z)).map fun c => .dat (.bool c)) δ := (rfl)
@[simp] theorem chainL_some {o2 : Cmp} {c : E} {y : D} {b : Bool} : chainL call o2 c y (some b) δ = if b then (evE call c δ).bind (chainM o2 y) else .ok (.dat (.bool false)) δ := by cases b <;> rfl
def andK (call : Str → List Ev.Slot → FRes) (b : E) (ra : RV) (δ : Sts) : Res RV := match ra with
  | .dat (.bool true) => evE call b δ
  | .dat (.bool false) => .ok (.dat (.bool false)) δ
  | _ => .stuck
@[simp] theorem andK_b {b : E} {k : Bool} : andK call b (.dat (.bool k)) δ = if k then evE call b δ else .ok (.dat (.bool false)) δ := by cases k <;> rfl
def orK (call : Str → List Ev.Slot → FRes) (b : E) (ra : RV) (δ : Sts) : Res RV := match ra with
  | .dat (.bool false) => evE call b δ
  | .dat (.bool true) => .ok (.dat (.bool true)) δ
  | _ => .stuck
@[simp] theorem orK_b {b : E} {k : Bool} : orK call b (.dat (.bool k)) δ = if k then .ok (.dat (.bool true)) δ else evE call b δ := by cases k <;> rfl
def notK (ra : RV) (δ : Sts) : Res RV := match ra with
  | .dat (.bool b) => .ok (.dat (.bool (!b))) δ
  | _ => .stuck
@[simp] theorem notK_b {k : Bool} : notK (.dat (.bool k)) δ = .ok (.dat (.bool (!k))) δ := (rfl)
def negK (ra : RV) (δ : Sts) : Res RV := match ra with
  | .dat (.int i) => .ok (.dat (.int (-i))) δ
  | _ => .stuck
@[simp] theorem negK_i {k : Int} : negK (.dat (.int k)) δ = .ok (.dat (.int (-k))) δ := (rfl)
@[simp] theorem ev_and {a b : E} : evE call (.and a b) δ = (evE call a δ).bind (andK call b) := (rfl)
@[simp] theorem ev_or {a b : E} : evE call (.or a b) δ = (evE call a δ).bind (orK call b) := (rfl)
@[simp] theorem ev_not {a : E} : evE call (.not a) δ = (evE call a δ).bind notK := (rfl)
@[simp] theorem ev_neg {a : E} : evE call (.neg a) δ = (evE call a δ).bind negK := (rfl)
def iteK (call : Str → List Ev.Slot → FRes) (a : E) (b : E) (k : Bool) (δ : Sts) : Res RV := if k then evE call a δ else evE call b δ
@[simp] theorem iteK_eq {call : Str → List Ev.Slot → FRes} {a : E} {b : E} {k : Bool} {δ : Sts} : iteK call a b k δ = if k then evE call a δ else evE call b δ := (rfl)
@[simp] theorem ev_ite {c a b : E} : evE call (.ite c a b) δ = (evT call c δ).bind (iteK call a b) := (rfl)
def slK3 (ra : RV) (l : Option Int) (h : Option Int) (δ : Sts) : Res RV := if innOk ra false then Res.ofOpt (sliceV (Ev.view ra δ) l h) δ else .stuck
@[simp] theorem slK3_eq {ra : RV} {l : Option Int} {h : Option Int} {δ : Sts} : slK3 ra l h δ = if innOk ra false then Res.ofOpt (sliceV (Ev.view ra δ) l h) δ else .stuck := (rfl)
def slK2 (call : Str → List Ev.Slot → FRes) (hi : O) (ra : RV) (l : Option Int) (δ : Sts) : Res RV := (evO call hi δ).bind (slK3 ra l)
@[simp] theorem slK2_eq {call : Str → List Ev.Slot → FRes} {hi : O} {ra : RV} {l : Option Int} {δ : Sts} : slK2 call hi ra l δ = (evO call hi δ).bind (slK3 ra l) := (rfl)
def slK1 (call : Str → List Ev.Slot → FRes) (lo : O) (hi : O) (ra : RV) (δ : Sts) : Res RV := (evO call lo δ).bind (slK2 call hi ra)
@[simp] theorem slK1_eq {call : Str → List Ev.Slot → FRes} {lo : O} {hi : O} {ra : RV} {δ : Sts} : slK1 call lo hi ra δ = (evO call lo δ).bind (slK2 call hi ra) := (rfl)
@[simp] theorem ev_slice {a : E} {lo hi : O} : evE call (.slice a lo hi) δ = (evE call a δ).bind (slK1 call lo hi) := (rfl)
def callA (call : Str → List Ev.Slot → FRes) (f : Str) (rs : List RV) (as : Option (List Ev.Slot)) (δ : Sts) : Res RV := match as with
  | none => .stuck
  | some as => if nodupN (locsOf rs) then callK (call f as) rs δ else .stuck
@[simp] theorem callA_some {f : Str} {rs : List RV} {as : List Ev.Slot} : callA call f rs (some as) δ = if nodupN (locsOf rs) then callK (call f as) rs δ else .stuck := (rfl)
def clK (call : Str → List Ev.Slot → FRes) (f : Str) (rs : List RV) (δ : Sts) : Res RV := callA call f rs (argsOf rs δ) δ
@[simp] theorem clK_eq {call : Str → List Ev.Slot → FRes} {f : Str} {rs : List RV} {δ : Sts} : clK call f rs δ = callA call f rs (argsOf rs δ) δ := (rfl)
@[simp] theorem ev_call {f : Str} {es : Es} : evE call (.call f es) δ = (evRs call es δ).bind (clK call f) := by
  show (evRs call es δ).bind _ = _
  congr 1
/-- the slots behind a call -/
def gbK (o : Option Sts) (r : RV) : Res RV := match o with
  | some δ' => .ok r δ'
  | none => .stuck
def gbX (o : Option Sts) (c : Str) : Res RV := match o with
  | some δ' => .exc c δ'
  | none => .stuck
@[simp] theorem gbK_some {r : RV} : gbK (some δ) r = .ok r δ := (rfl)
@[simp] theorem gbX_some {c : Str} : gbX (some δ) c = .exc c δ := (rfl)
@[simp] theorem callK_ret {r : RV} {back : List Ev.Slot} {rs : List RV} : callK (.ret r back) rs δ = if isRet r then gbK (giveBack rs back δ) r else .stuck := (rfl)
@[simp] theorem callK_exc {c : Str} {back : List Ev.Slot} {rs : List RV} : callK (.exc c back) rs δ = gbX (giveBack rs back δ) c := (rfl)
def biK (b : Bi) (rs : List RV) (δ : Sts) : Res RV := Res.ofOpt (biV b (rs.map fun r => Ev.view r δ)) δ
@[simp] theorem biK_eq {b : Bi} {rs : List RV} {δ : Sts} : biK b rs δ = Res.ofOpt (biV b (rs.map fun r => Ev.view r δ)) δ := (rfl)
@[simp] theorem ev_bi {b : Bi} {es : Es} : evE call (.bi b es) δ = (evVs call es δ).bind (biK b) := (rfl)
@[simp] theorem ev_comp {own : List Nat} {tg : Tg} {it : It} {cs : Es} {elt : E} : evE call (.comp own tg it cs elt) δ = compS call own tg it cs elt δ := (rfl)
@[simp] theorem ev_compR {own : List Nat} {tg : Tg} {it : It} {elt : E} : evE call (.compR own tg it elt) δ = compRS call own tg it elt δ := (rfl)
def gdK (kvs : List (Key × D)) (ri : RV) (δ : Sts) : Res RV := match ri with
  | .dat (.str z) => Res.ofOpt ((lookA kvs (.inr z)).map .dat) δ
  | _ => .stuck
@[simp] theorem gdK_str {kvs : List (Key × D)} {z : Str} : gdK kvs (.dat (.str z)) δ = Res.ofOpt ((lookA kvs (.inr z)).map .dat) δ := (rfl)
@[simp] theorem ev_gdict {x : Str} {i : E} {kvs : List (Key × D)} : evE call (.gdict x i kvs) δ = (evE call i δ).bind (gdK kvs) := (rfl)
def inK (neg : Bool) (kvs : List (Key × D)) (ri : RV) (δ : Sts) : Res RV := match ri with
  | .dat (.str z) => .ok (.dat (.bool (if neg then !(lookA kvs (.inr z)).isSome else (lookA kvs (.inr z)).isSome))) δ
  | _ => .stuck
@[simp] theorem inK_str {neg : Bool} {kvs : List (Key × D)} {z : Str} : inK neg kvs (.dat (.str z)) δ = .ok (.dat (.bool (if neg then !(lookA kvs (.inr z)).isSome else (lookA kvs (.inr z)).isSome))) δ := (rfl)
@[simp] theorem ev_ingdict {neg : Bool} {x : Str} {i : E} {kvs : List (Key × D)} : evE call (.ingdict neg x i kvs) δ = (evE call i δ).bind (inK neg kvs) := (rfl)
def popK (s : Ev.Slot) (i : Nat) (δ : Sts) : Res RV := match s with
  | .lst ds => (match ds[ds.length - 1]? with
    | some d => .ok (.dat d) (δ.set i (.lst ds.dropLast))
    | none => .stuck)
  | _ => .stuck
@[simp] theorem ev_pop {i : Nat} : evE call (.pop i) δ = popK (getS δ i) i δ := (rfl)
@[simp] theorem popK_app {i : Nat} {ds : List D} {d : D} : popK (.lst (ds ++ [d])) i δ = .ok (.dat d) (δ.set i (.lst ds)) := by
  unfold popK
  simp
def saidK (tbl : List (Str × Str)) (m : Res RV) : Res RV := match m with
  | .ok _ δ => .ok (.dat (.str "told")) δ
  | .exc c δ => (match tbl.lookup c with
    | some w => .ok (.dat (.str w)) δ
    | none => .stuck)
  | .stuck => .stuck
@[simp] theorem ev_said {f : Str} {tb : List (Str × Str)} {e : E} : evE call (.said f tb e) δ = saidK tb (evE call e δ) := (rfl)
@[simp] theorem saidK_ok {tb : List (Str × Str)} {r : RV} : saidK tb (.ok r δ) = .ok (.dat (.str "told")) δ := (rfl)
def lookK (o : Option Str) (δ : Sts) : Res RV := match o with
    | some w => .ok (.dat (.str w)) δ
    | none => .stuck
@[simp] theorem lookK_some {w : Str} : lookK (some w) δ = .ok (.dat (.str w)) δ := (rfl)
@[simp] theorem saidK_exc {tb : List (Str × Str)} {c : Str} : saidK tb (.exc c δ) = lookK (tb.lookup c) δ := (rfl)
/-! ### tests -/
def tstK (f : Ev.Slot → Option Bool) (m : Res RV) : Res Bool := m.bind fun r δ => Res.ofOpt (f (Ev.view r δ)) δ
@[simp] theorem tstK_ok {f : Ev.Slot → Option Bool} {r : RV} : tstK f (.ok r δ) = Res.ofOpt (f (Ev.view r δ)) δ := (rfl)
@[simp] theorem tstK_exc {f : Ev.Slot → Option Bool} {c : Str} : tstK f (.exc c δ) = .exc c δ := (rfl)
def tAndK (call : Str → List Ev.Slot → FRes) (b : E) (k : Bool) (δ : Sts) : Res Bool := if k then evT call b δ else .ok false δ
@[simp] theorem tAndK_eq {call : Str → List Ev.Slot → FRes} {b : E} {k : Bool} {δ : Sts} : tAndK call b k δ = if k then evT call b δ else .ok false δ := (rfl)
def tOrK (call : Str → List Ev.Slot → FRes) (b : E) (k : Bool) (δ : Sts) : Res Bool := if k then .ok true δ else evT call b δ
@[simp] theorem tOrK_eq {call : Str → List Ev.Slot → FRes} {b : E} {k : Bool} {δ : Sts} : tOrK call b k δ = if k then .ok true δ else evT call b δ := (rfl)
def tNotK  (k : Bool) (δ : Sts) : Res Bool := .ok (!k) δ
@[simp] theorem tNotK_eq {k : Bool} {δ : Sts} : tNotK  k δ = .ok (!k) δ := (rfl)
@[simp] theorem et_and {a b : E} : evT call (.and a b) δ = (evT call a δ).bind (tAndK call b) := (rfl)
@[simp] theorem et_or {a b : E} : evT call (.or a b) δ = (evT call a δ).bind (tOrK call b) := (rfl)
@[simp] theorem et_not {a : E} : evT call (.not a) δ = (evT call a δ).bind tNotK := (rfl)
@[simp] theorem et_cmp {op : Cmp} {a b : E} : evT call (.cmp op a b) δ = tstK boolOf (evE call (.cmp op a b) δ) := (rfl)
@[simp] theorem et_chain {o1 o2 : Cmp} {a b c : E} : evT call (.chain o1 o2 a b c) δ = tstK boolOf (evE call (.chain o1 o2 a b c) δ) := (rfl)
@[simp] theorem et_var {i : Nat} : evT call (.var i) δ = tstK truV (evE call (.var i) δ) := (rfl)
@[simp] theorem et_call {f : Str} {es : Es} : evT call (.call f es) δ = tstK truV (evE call (.call f es) δ) := (rfl)
@[simp] theorem et_bi {b : Bi} {es : Es} : evT call (.bi b es) δ = tstK truV (evE call (.bi b es) δ) := (rfl)
@[simp] theorem et_sub {a b : E} : evT call (.sub a b) δ = tstK truV (evE call (.sub a b) δ) := (rfl)
@[simp] theorem et_ingdict {neg : Bool} {x : Str} {i : E} {kvs : List (Key × D)} : evT call (.ingdict neg x i kvs) δ = tstK boolOf (evE call (.ingdict neg x i kvs) δ) := (rfl)
@[simp] theorem boolOf_b {b : Bool} : boolOf (.dat (.bool b)) = some b := (rfl)
@[simp] theorem truV_b {b : Bool} : truV (.dat (.bool b)) = some b := (rfl)
@[simp] theorem truV_none : truV (.dat .none) = some false := (rfl)
@[simp] theorem truV_int {i : Int} : truV (.dat (.int i)) = some (i != 0) := (rfl)
@[simp] theorem truV_list {ds : List D} : truV (.dat (.list ds)) = some (!ds.isEmpty) := (rfl)
@[simp] theorem truV_tuple {ds : List D} : truV (.dat (.tuple ds)) = some (!ds.isEmpty) := (rfl)
@[simp] theorem truV_lst {ds : List D} : truV (.lst ds) = some (!ds.isEmpty) := (rfl)
/-! ### lists of expressions -/
def consD (d : D) (ds : List D) (δ : Sts) : Res (List D) := .ok (d :: ds) δ
@[simp] theorem consD_eq {d : D} {ds : List D} {δ : Sts} : consD d ds δ = .ok (d :: ds) δ := (rfl)
def dsK2 (call : Str → List Ev.Slot → FRes) (es : Es) (d : D) (δ : Sts) : Res (List D) := (evDs call es δ).bind (consD d)
@[simp] theorem dsK2_eq {call : Str → List Ev.Slot → FRes} {es : Es} {d : D} {δ : Sts} : dsK2 call es d δ = (evDs call es δ).bind (consD d) := (rfl)
def dsK1 (call : Str → List Ev.Slot → FRes) (es : Es) (r : RV) (δ : Sts) : Res (List D) := (Ev.settle r δ).bind (dsK2 call es)
@[simp] theorem dsK1_eq {call : Str → List Ev.Slot → FRes} {es : Es} {r : RV} {δ : Sts} : dsK1 call es r δ = (Ev.settle r δ).bind (dsK2 call es) := (rfl)
def consR (r : RV) (rs : List RV) (δ : Sts) : Res (List RV) := .ok (r :: rs) δ
@[simp] theorem consR_eq {r : RV} {rs : List RV} {δ : Sts} : consR r rs δ = .ok (r :: rs) δ := (rfl)
def vsK (call : Str → List Ev.Slot → FRes) (es : Es) (q : Bool) (r : RV) (δ : Sts) : Res (List RV) := if innOk r q then (evVs call es δ).bind (consR r) else .stuck
@[simp] theorem vsK_eq {call : Str → List Ev.Slot → FRes} {es : Es} {q : Bool} {r : RV} {δ : Sts} : vsK call es q r δ = if innOk r q then (evVs call es δ).bind (consR r) else .stuck := (rfl)
def rsK2 (call : Str → List Ev.Slot → FRes) (es : Es) (r : RV) (δ : Sts) : Res (List RV) := (evRs call es δ).bind (consR r)
@[simp] theorem rsK2_eq {call : Str → List Ev.Slot → FRes} {es : Es} {r : RV} {δ : Sts} : rsK2 call es r δ = (evRs call es δ).bind (consR r) := (rfl)
@[simp] theorem ds_nil : evDs call .nil δ = .ok [] δ := (rfl)
@[simp] theorem ds_cons {e : E} {es : Es} : evDs call (.cons e es) δ = (evE call e δ).bind (dsK1 call es) := (rfl)
@[simp] theorem vs_nil : evVs call .nil δ = .ok [] δ := (rfl)
@[simp] theorem vs_cons {e : E} {es : Es} : evVs call (.cons e es) δ = (evE call e δ).bind (vsK call es es.quiet) := (rfl)
def setR  (d : D) (δ : Sts) : Res RV := .ok (.dat d) δ
@[simp] theorem setR_eq {d : D} {δ : Sts} : setR  d δ = .ok (.dat d) δ := (rfl)
def rsK (r : RV) (δ : Sts) : Res RV := match r with
  | .loc i => .ok (.loc i) δ
  | r => (Ev.settle r δ).bind fun d δ => .ok (.dat d) δ
@[simp] theorem rsK_loc {i : Nat} : rsK (.loc i) δ = .ok (.loc i) δ := (rfl)
@[simp] theorem rsK_dat {d : D} : rsK (.dat d) δ = .ok (.dat d) δ := (rfl)
@[simp] theorem rsK_own {s : Ev.Slot} : rsK (.own s) δ = (Ev.settle (.own s) δ).bind setR := (rfl)
def rsK1 (call : Str → List Ev.Slot → FRes) (es : Es) (r : RV) (δ : Sts) : Res (List RV) := (rsK r δ).bind (rsK2 call es)
@[simp] theorem rsK1_eq {call : Str → List Ev.Slot → FRes} {es : Es} {r : RV} {δ : Sts} : rsK1 call es r δ = (rsK r δ).bind (rsK2 call es) := (rfl)
@[simp] theorem rs_nil : evRs call .nil δ = .ok [] δ := (rfl)
@[simp] theorem rs_cons {e : E} {es : Es} : evRs call (.cons e es) δ = (evE call e δ).bind (rsK1 call es) := by
  show (evE call e δ).bind _ = _
  congr 1; funext r δ'
  cases r with
  | loc i => rfl
  | dat d => rfl
  | inn ds => rfl
  | own s =>
    show (Ev.settle (.own s) δ').bind _ = ((Ev.settle (.own s) δ').bind _).bind _
    generalize Ev.settle (.own s) δ' = z
    cases z <;> rfl
@[simp] theorem cs_nil : evCs call .nil δ = .ok true δ := (rfl)
def csK (call : Str → List Ev.Slot → FRes) (es : Es) (k : Bool) (δ : Sts) : Res Bool := if k then evCs call es δ else .ok false δ
@[simp] theorem csK_eq {call : Str → List Ev.Slot → FRes} {es : Es} {k : Bool} {δ : Sts} : csK call es k δ = if k then evCs call es δ else .ok false δ := (rfl)
@[simp] theorem cs_cons {e : E} {es : Es} : evCs call (.cons e es) δ = (evT call e δ).bind (csK call es) := (rfl)
def oK (r : RV) (δ : Sts) : Res (Option Int) := match r with
  | .dat (.int i) => .ok (some i) δ
  | _ => .stuck
@[simp] theorem oK_int {i : Int} : oK (.dat (.int i)) δ = .ok (some i) δ := (rfl)
@[simp] theorem o_none : evO call .none δ = .ok none δ := (rfl)
@[simp] theorem o_some {e : E} : evO call (.some e) δ = (evE call e δ).bind oK := (rfl)
/-! ### walks -/
@[simp] theorem listD_list {ds : List D} : listD (.list ds) = some ds := (rfl)
@[simp] theorem listD_tuple {ds : List D} : listD (.tuple ds) = some ds := (rfl)
def seqK2  (d : D) (δ : Sts) : Res (List D) := Res.ofOpt (listD d) δ
@[simp] theorem seqK2_eq {d : D} {δ : Sts} : seqK2  d δ = Res.ofOpt (listD d) δ := (rfl)
def seqK1  (r : RV) (δ : Sts) : Res (List D) := (Ev.settle r δ).bind seqK2
@[simp] theorem seqK1_eq {r : RV} {δ : Sts} : seqK1  r δ = (Ev.settle r δ).bind seqK2 := (rfl)
@[simp] theorem ei_seq {e : E} : evI call (.seq e) δ = (evE call e δ).bind seqK1 := (rfl)
def enumK (d : D) (δ : Sts) : Res (List D) := match d with
  | .list ds => .ok (enumL 0 ds) δ
  | .tuple ds => .ok (enumL 0 ds) δ
  | _ => .stuck
@[simp] theorem enumK_tuple {ds : List D} : enumK (.tuple ds) δ = .ok (enumL 0 ds) δ := (rfl)
@[simp] theorem enumK_list {ds : List D} : enumK (.list ds) δ = .ok (enumL 0 ds) δ := (rfl)
def enK1  (r : RV) (δ : Sts) : Res (List D) := (Ev.settle r δ).bind enumK
@[simp] theorem enK1_eq {r : RV} {δ : Sts} : enK1  r δ = (Ev.settle r δ).bind enumK := (rfl)
@[simp] theorem ei_enum {e : E} : evI call (.enum e) δ = (evE call e δ).bind enK1 := (rfl)
def in62K (r : RV) (δ : Sts) : Res Int := match r with
  | .dat (.int n) => if in62 n then .ok n δ else .stuck
  | _ => .stuck
@[simp] theorem in62K_int {n : Int} : in62K (.dat (.int n)) δ = if -4611686018427387904 ≤ n ∧ n < 4611686018427387904 then .ok n δ else .stuck := by
  show (if in62 n = true then Res.ok n δ else .stuck) = _
  unfold in62
  simp
def r1K2  (n : Int) (δ : Sts) : Res (List D) := .ok (rangeL 0 1 n.toNat) δ
@[simp] theorem r1K2_eq {n : Int} {δ : Sts} : r1K2  n δ = .ok (rangeL 0 1 n.toNat) δ := (rfl)
def r1K1  (r : RV) (δ : Sts) : Res (List D) := (in62K r δ).bind r1K2
@[simp] theorem r1K1_eq {r : RV} {δ : Sts} : r1K1  r δ = (in62K r δ).bind r1K2 := (rfl)
def r2K4 (m : Int) (n : Int) (δ : Sts) : Res (List D) := .ok (rangeL m 1 (n - m).toNat) δ
@[simp] theorem r2K4_eq {m : Int} {n : Int} {δ : Sts} : r2K4 m n δ = .ok (rangeL m 1 (n - m).toNat) δ := (rfl)
def r2K3 (m : Int) (r : RV) (δ : Sts) : Res (List D) := (in62K r δ).bind (r2K4 m)
@[simp] theorem r2K3_eq {m : Int} {r : RV} {δ : Sts} : r2K3 m r δ = (in62K r δ).bind (r2K4 m) := (rfl)
def r2K2 (call : Str → List Ev.Slot → FRes) (b : E) (m : Int) (δ : Sts) : Res (List D) := (evE call b δ).bind (r2K3 m)
@[simp] theorem r2K2_eq {call : Str → List Ev.Slot → FRes} {b : E} {m : Int} {δ : Sts} : r2K2 call b m δ = (evE call b δ).bind (r2K3 m) := (rfl)
def r2K1 (call : Str → List Ev.Slot → FRes) (b : E) (r : RV) (δ : Sts) : Res (List D) := (in62K r δ).bind (r2K2 call b)
@[simp] theorem r2K1_eq {call : Str → List Ev.Slot → FRes} {b : E} {r : RV} {δ : Sts} : r2K1 call b r δ = (in62K r δ).bind (r2K2 call b) := (rfl)
def r3K2  (m : Int) (δ : Sts) : Res (List D) := .ok (rangeL m (-1) (m + 1).toNat) δ
@[simp] theorem r3K2_eq {m : Int} {δ : Sts} : r3K2  m δ = .ok (rangeL m (-1) (m + 1).toNat) δ := (rfl)
def r3K1  (r : RV) (δ : Sts) : Res (List D) := (in62K r δ).bind r3K2
@[simp] theorem r3K1_eq {r : RV} {δ : Sts} : r3K1  r δ = (in62K r δ).bind r3K2 := (rfl)
@[simp] theorem ei_range1 {a : E} : evI call (.range1 a) δ = (evE call a δ).bind r1K1 := by
  show ((evE call a δ).bind fun r δ => in62K r δ).bind _ = _
  cases evE call a δ <;> rfl
@[simp] theorem ei_range2 {a b : E} : evI call (.range2 a b) δ = (evE call a δ).bind (r2K1 call b) := by
  show ((evE call a δ).bind fun r δ => in62K r δ).bind (fun m δ => ((evE call b δ).bind fun r δ => in62K r δ).bind fun n δ => .ok (rangeL m 1 (n - m).toNat) δ) = _
  cases evE call a δ with
  | ok r δ1 =>
    show (in62K r δ1).bind _ = (in62K r δ1).bind _
    congr 1; funext m δ2
    rw [r2K2_eq]
    cases evE call b δ2 <;> rfl
  | exc c δ1 => rfl
  | stuck => rfl
@[simp] theorem ei_range3 {a : E} : evI call (.range3 a (.neg (.cst (.int 1))) (.neg (.cst (.int 1)))) δ = (evE call a δ).bind r3K1 := by
  show ((evE call a δ).bind fun r δ => in62K r δ).bind _ = _
  cases evE call a δ with
  | ok r δ1 =>
    show (in62K r δ1).bind _ = (in62K r δ1).bind _
    congr 1
  | exc c δ1 => rfl
  | stuck => rfl
def zipK (d d2 : D) (δ : Sts) : Res (List D) := match d, d2 with
  | .list ds, .list es => .ok (zipL ds es) δ
  | .tuple ds, .tuple es => .ok (zipL ds es) δ
  | _, _ => .stuck
@[simp] theorem zipK_list {ds es : List D} : zipK (.list ds) (.list es) δ = .ok (zipL ds es) δ := (rfl)
@[simp] theorem zipK_tuple {ds es : List D} : zipK (.tuple ds) (.tuple es) δ = .ok (zipL ds es) δ := (rfl)
def zK4 (d : D) (d2 : D) (δ : Sts) : Res (List D) := zipK d d2 δ
@[simp] theorem zK4_eq {d : D} {d2 : D} {δ : Sts} : zK4 d d2 δ = zipK d d2 δ := (rfl)
def zK3 (d : D) (r : RV) (δ : Sts) : Res (List D) := (Ev.settle r δ).bind (zK4 d)
@[simp] theorem zK3_eq {d : D} {r : RV} {δ : Sts} : zK3 d r δ = (Ev.settle r δ).bind (zK4 d) := (rfl)
def zK2 (call : Str → List Ev.Slot → FRes) (b : E) (d : D) (δ : Sts) : Res (List D) := (evE call b δ).bind (zK3 d)
@[simp] theorem zK2_eq {call : Str → List Ev.Slot → FRes} {b : E} {d : D} {δ : Sts} : zK2 call b d δ = (evE call b δ).bind (zK3 d) := (rfl)
def zK1 (call : Str → List Ev.Slot → FRes) (b : E) (r : RV) (δ : Sts) : Res (List D) := (Ev.settle r δ).bind (zK2 call b)
@[simp] theorem zK1_eq {call : Str → List Ev.Slot → FRes} {b : E} {r : RV} {δ : Sts} : zK1 call b r δ = (Ev.settle r δ).bind (zK2 call b) := (rfl)
@[simp] theorem ei_zip {a b : E} : evI call (.zip a b) δ = (evE call a δ).bind (zK1 call b) := (rfl)
/-! ### statements -/
def forS (call : Str → List Ev.Slot → FRes) (tg : Tg) (b : Ss) (ds : List D) (δ : Sts) : Ev.Flow := forF (fun d δ => match asgD tg d δ with
      | some δ => evSs call b δ
      | none => .stuck) ds δ
def whS (call : Str → List Ev.Slot → FRes) (c : E) (b : Ss) (n : Nat) (δ : Sts) : Ev.Flow := whileF (evT call c) (evSs call b) n δ
@[simp] theorem ss_nil : evSs call .nil δ = .next δ := (rfl)
@[simp] theorem ss_cons {s : S} {ss : Ss} : evSs call (.cons s ss) δ = fseq (evS call s δ) (evSs call ss) := by
  show (match evS call s δ with
    | .next δ => evSs call ss δ
    | f => f) = _
  cases evS call s δ <;> rfl
def setK (tg : Tg) (r : RV) (δ : Sts) : Ev.Flow := Ev.Flow.ofOpt (asgR tg r δ)
@[simp] theorem setK_eq {tg : Tg} {r : RV} {δ : Sts} : setK tg r δ = Ev.Flow.ofOpt (asgR tg r δ) := (rfl)
@[simp] theorem es_set {tg : Tg} {e : E} : evS call (.set tg e) δ = (evE call e δ).flow (setK tg) := (rfl)
@[simp] theorem asgR_own {i : Nat} {s : Ev.Slot} : asgR (.nm i) (.own s) δ = some (δ.set i s) := (rfl)
@[simp] theorem asgR_dat {i : Nat} {d : D} : asgR (.nm i) (.dat d) δ = some (δ.set i (.dat d)) := (rfl)
@[simp] theorem asgR_tup {is : List Nat} {ds : List D} : asgR (.tup is) (.dat (.tuple ds)) δ = setAll is ds δ := (rfl)
@[simp] theorem asgR_loc {i j : Nat} : asgR (.nm i) (.loc j) δ = (match settleL (getS δ j) j δ with
    | .ok d δ' => some (δ'.set i (.dat d))
    | _ => none) := rfl
@[simp] theorem asgD_nm {i : Nat} {d : D} : asgD (.nm i) d δ = some (δ.set i (.dat d)) := (rfl)
@[simp] theorem asgD_tup {is : List Nat} {ds : List D} : asgD (.tup is) (.tuple ds) δ = setAll is ds δ := (rfl)
@[simp] theorem setAll_nil : setAll [] [] δ = some δ := (rfl)
@[simp] theorem setAll_cons {i : Nat} {is : List Nat} {d : D} {ds : List D} : setAll (i :: is) (d :: ds) δ = setAll is ds (δ.set i (.dat d)) := (rfl)
@[simp] theorem setSlots_nil : setSlots [] [] δ = some δ := (rfl)
@[simp] theorem setSlots_cons {i : Nat} {is : List Nat} {d : Ev.Slot} {ds : List Ev.Slot} : setSlots (i :: is) (d :: ds) δ = setSlots is ds (δ.set i d) := (rfl)
def setSl  (d : D) (δ : Sts) : Res Ev.Slot := .ok (.dat d) δ
@[simp] theorem setSl_eq {d : D} {δ : Sts} : setSl  d δ = .ok (.dat d) δ := (rfl)
def parK (r : RV) (δ : Sts) : Res Ev.Slot := match r with
  | .own s => .ok s δ
  | r => (Ev.settle r δ).bind fun d δ => .ok (.dat d) δ
@[simp] theorem parK_own {s : Ev.Slot} : parK (.own s) δ = .ok s δ := (rfl)
@[simp] theorem parK_dat {d : D} : parK (.dat d) δ = .ok (.dat d) δ := (rfl)
@[simp] theorem parK_loc {i : Nat} : parK (.loc i) δ = (settleL (getS δ i) i δ).bind setSl := (rfl)
def consS (s : Ev.Slot) (ss : List Ev.Slot) (δ : Sts) : Res (List Ev.Slot) := .ok (s :: ss) δ
@[simp] theorem consS_eq {s : Ev.Slot} {ss : List Ev.Slot} {δ : Sts} : consS s ss δ = .ok (s :: ss) δ := (rfl)
def parK3 (call : Str → List Ev.Slot → FRes) (es : Es) (s : Ev.Slot) (δ : Sts) : Res (List Ev.Slot) := (evPar call es δ).bind (consS s)
@[simp] theorem parK3_eq {call : Str → List Ev.Slot → FRes} {es : Es} {s : Ev.Slot} {δ : Sts} : parK3 call es s δ = (evPar call es δ).bind (consS s) := (rfl)
def parK2 (call : Str → List Ev.Slot → FRes) (es : Es) (r : RV) (δ : Sts) : Res (List Ev.Slot) := (parK r δ).bind (parK3 call es)
@[simp] theorem parK2_eq {call : Str → List Ev.Slot → FRes} {es : Es} {r : RV} {δ : Sts} : parK2 call es r δ = (parK r δ).bind (parK3 call es) := (rfl)
@[simp] theorem par_nil : evPar call .nil δ = .ok [] δ := (rfl)
@[simp] theorem par_cons {e : E} {es : Es} : evPar call (.cons e es) δ = (evE call e δ).bind (parK2 call es) := by
  show (evE call e δ).bind _ = _
  congr 1; funext r δ'
  cases r with
  | own s => rfl
  | dat d => rfl
  | inn ds => rfl
  | loc i =>
    show (Ev.settle (.loc i) δ').bind _ = ((Ev.settle (.loc i) δ').bind _).bind _
    generalize Ev.settle (.loc i) δ' = z
    cases z <;> rfl
def sltK (is : List Nat) (ss : List Ev.Slot) (δ : Sts) : Ev.Flow := Ev.Flow.ofOpt (setSlots is ss δ)
@[simp] theorem sltK_eq {is : List Nat} {ss : List Ev.Slot} {δ : Sts} : sltK is ss δ = Ev.Flow.ofOpt (setSlots is ss δ) := (rfl)
@[simp] theorem es_par {is : List Nat} {es : Es} : evS call (.par is es) δ = (evPar call es δ).flow (sltK is) := (rfl)
def ssK3 (x : Nat) (d : D) (ri : RV) (δ : Sts) : Ev.Flow := match ri with
        | .dat k => Ev.Flow.ofOpt ((putV (getS δ x) k d).map fun s => δ.set x s)
        | _ => .stuck
@[simp] theorem ssK3_dat {k : D} {x : Nat} {d : D} : ssK3 x d (.dat k) δ = Ev.Flow.ofOpt ((putV (getS δ x) k d).map fun s => δ.set x s) := (rfl)
def ssK2 (call : Str → List Ev.Slot → FRes) (x : Nat) (i : E) (d : D) (δ : Sts) : Ev.Flow := if hasS δ x then (evE call i δ).flow (ssK3 x d) else .stuck
@[simp] theorem ssK2_eq {call : Str → List Ev.Slot → FRes} {x : Nat} {i : E} {d : D} {δ : Sts} : ssK2 call x i d δ = if hasS δ x then (evE call i δ).flow (ssK3 x d) else .stuck := (rfl)
def ssK1 (call : Str → List Ev.Slot → FRes) (x : Nat) (i : E) (r : RV) (δ : Sts) : Ev.Flow := (Ev.settle r δ).flow (ssK2 call x i)
@[simp] theorem ssK1_eq {call : Str → List Ev.Slot → FRes} {x : Nat} {i : E} {r : RV} {δ : Sts} : ssK1 call x i r δ = (Ev.settle r δ).flow (ssK2 call x i) := (rfl)
@[simp] theorem es_setSub {x : Nat} {i e : E} : evS call (.setSub x i e) δ = (evE call e δ).flow (ssK1 call x i) := (rfl)
def augK (s : Ev.Slot) (i : Nat) (op : Op) (r : RV) (δ : Sts) : Ev.Flow := match s, r with
  | .dat x, .dat y => (match augV op x y with
          | some z => .next (δ.set i (.dat z))
          | none => .stuck)
  | _, _ => .stuck
def isDat (s : Ev.Slot) : Bool := match s with
  | .dat _ => true
  | _ => false
@[simp] theorem isDat_dat {d : D} : isDat (.dat d) = true := (rfl)
@[simp] theorem es_aug {i : Nat} {op : Op} {e : E} : evS call (.aug i op e) δ = if isDat (getS δ i) then (evE call e δ).flow (augK (getS δ i) i op) else .stuck := by
  show (match getS δ i with
      | .dat x => (evE call e δ).flow fun r δ => (match r with
        | .dat y => (match augV op x y with
          | some z => .next (δ.set i (.dat z))
          | none => .stuck)
        | _ => .stuck)
      | _ => .stuck) = _
  cases getS δ i <;> first | rfl | skip
  simp only [isDat_dat, if_true]
  congr 1; funext r δ'
  cases r <;> rfl
@[simp] theorem augK_dat {x y : D} {i : Nat} {op : Op} : augK (.dat x) i op (.dat y) δ = Ev.Flow.ofOpt ((augV op x y).map fun z => δ.set i (.dat z)) := by
  unfold augK
  cases h : augV op x y <;> simp [h]
def isLst (s : Ev.Slot) : Bool := match s with
  | .lst _ => true
  | _ => false
@[simp] theorem isLst_lst {ds : List D} : isLst (.lst ds) = true := (rfl)
def appK (s : Ev.Slot) (x : Nat) (d : D) (δ : Sts) : Ev.Flow := match s with
        | .lst ds => if Nat.blt ds.length line then .next (δ.set x (.lst (ds ++ [d]))) else .stuck
        | _ => .stuck
@[simp] theorem appK_lst {ds : List D} {x : Nat} {d : D} : appK (.lst ds) x d δ = if ds.length < 16777216 then .next (δ.set x (.lst (ds ++ [d]))) else .stuck := by
  show (if Nat.blt ds.length 16777216 = true then Ev.Flow.next (δ.set x (.lst (ds ++ [d]))) else .stuck) = _
  by_cases h : ds.length < 16777216
  · rw [if_pos h, if_pos (Nat.blt_eq.mpr h)]
  · rw [if_neg h, if_neg (fun e => h (Nat.blt_eq.mp e))]
def apK2 (x : Nat) (d : D) (δ : Sts) : Ev.Flow := appK (getS δ x) x d δ
@[simp] theorem apK2_eq {x : Nat} {d : D} {δ : Sts} : apK2 x d δ = appK (getS δ x) x d δ := (rfl)
def apK1 (x : Nat) (r : RV) (δ : Sts) : Ev.Flow := (Ev.settle r δ).flow (apK2 x)
@[simp] theorem apK1_eq {x : Nat} {r : RV} {δ : Sts} : apK1 x r δ = (Ev.settle r δ).flow (apK2 x) := (rfl)
@[simp] theorem es_app {x : Nat} {e : E} : evS call (.app x e) δ = if isLst (getS δ x) then (evE call e δ).flow (apK1 x) else .stuck := by
  show (match getS δ x with
      | .lst _ => (evE call e δ).flow fun r δ => (Ev.settle r δ).flow fun d δ => (match getS δ x with
        | .lst ds => if Nat.blt ds.length line then .next (δ.set x (.lst (ds ++ [d]))) else .stuck
        | _ => .stuck)
      | _ => .stuck : Ev.Flow) = _
  cases getS δ x <;> rfl
def extK (d : D) (s : Ev.Slot) (x : Nat) (δ : Sts) : Ev.Flow := match d, s with
        | .list es, .lst ds => if okLen (ds.length + es.length) then .next (δ.set x (.lst (ds ++ es))) else .stuck
        | _, _ => .stuck
@[simp] theorem extK_lst {es ds : List D} {x : Nat} : extK (.list es) (.lst ds) x δ = if ds.length + es.length ≤ 16777216 then .next (δ.set x (.lst (ds ++ es))) else .stuck := by
  show (if Nat.ble (ds.length + es.length) 16777216 = true then Ev.Flow.next (δ.set x (.lst (ds ++ es))) else .stuck) = _
  by_cases h : ds.length + es.length ≤ 16777216
  · rw [if_pos h, if_pos (Nat.ble_eq.mpr h)]
  · rw [if_neg h, if_neg (fun e => h (Nat.ble_eq.mp e))]
def exK2 (x : Nat) (d : D) (δ : Sts) : Ev.Flow := extK d (getS δ x) x δ
@[simp] theorem exK2_eq {x : Nat} {d : D} {δ : Sts} : exK2 x d δ = extK d (getS δ x) x δ := (rfl)
def exK1 (x : Nat) (r : RV) (δ : Sts) : Ev.Flow := (Ev.settle r δ).flow (exK2 x)
@[simp] theorem exK1_eq {x : Nat} {r : RV} {δ : Sts} : exK1 x r δ = (Ev.settle r δ).flow (exK2 x) := (rfl)
@[simp] theorem es_ext {x : Nat} {e : E} : evS call (.ext x e) δ = if isLst (getS δ x) then (evE call e δ).flow (exK1 x) else .stuck := by
  show (match getS δ x with
      | .lst _ => (evE call e δ).flow fun r δ => (Ev.settle r δ).flow fun d δ => (match d, getS δ x with
        | .list es, .lst ds => if okLen (ds.length + es.length) then .next (δ.set x (.lst (ds ++ es))) else .stuck
        | _, _ => .stuck)
      | _ => .stuck : Ev.Flow) = _
  cases getS δ x <;> rfl
def nxK  (r : RV) (δ : Sts) : Ev.Flow := .next δ
@[simp] theorem nxK_eq {r : RV} {δ : Sts} : nxK  r δ = .next δ := (rfl)
def retK  (r : RV) (δ : Sts) : Ev.Flow := .ret r δ
@[simp] theorem retK_eq {r : RV} {δ : Sts} : retK  r δ = .ret r δ := (rfl)
def sIteK (call : Str → List Ev.Slot → FRes) (a : Ss) (b : Ss) (k : Bool) (δ : Sts) : Ev.Flow := if k then evSs call a δ else evSs call b δ
@[simp] theorem sIteK_eq {call : Str → List Ev.Slot → FRes} {a : Ss} {b : Ss} {k : Bool} {δ : Sts} : sIteK call a b k δ = if k then evSs call a δ else evSs call b δ := (rfl)
def forK (call : Str → List Ev.Slot → FRes) (tg : Tg) (b : Ss) (ds : List D) (δ : Sts) : Ev.Flow := forS call tg b ds δ
@[simp] theorem forK_eq {call : Str → List Ev.Slot → FRes} {tg : Tg} {b : Ss} {ds : List D} {δ : Sts} : forK call tg b ds δ = forS call tg b ds δ := (rfl)
@[simp] theorem es_expr {e : E} : evS call (.expr e) δ = (evE call e δ).flow nxK := (rfl)
@[simp] theorem es_ret {e : E} : evS call (.ret e) δ = (evE call e δ).flow retK := (rfl)
@[simp] theorem es_ite {c : E} {a b : Ss} : evS call (.ite c a b) δ = (evT call c δ).flow (sIteK call a b) := (rfl)
@[simp] theorem es_for {tg : Tg} {it : It} {b : Ss} : evS call (.for tg it b) δ = (evI call it δ).flow (forK call tg b) := (rfl)
@[simp] theorem es_while {c : E} {b : Ss} : evS call (.while c b) δ = whS call c b fuel δ := (rfl)
@[simp] theorem es_raise {c : Str} : evS call (.raise c) δ = .exc c δ := (rfl)
@[simp] theorem es_pass : evS call .pass δ = .next δ := (rfl)
@[simp] theorem es_brk : evS call .brk δ = .brk δ := (rfl)
@[simp] theorem es_cnt : evS call .cnt δ = .cnt δ := (rfl)
end
/-! ### operators -/
section
variable {i j : Int} {a b : List D} {u v : Str}
@[simp] theorem op_add : opV .add (.dat (.int i)) (.dat (.int j)) = some (.dat (.int (i + j))) := (rfl)
@[simp] theorem op_sub : opV .sub (.dat (.int i)) (.dat (.int j)) = some (.dat (.int (i - j))) := (rfl)
@[simp] theorem op_mul : opV .mul (.dat (.int i)) (.dat (.int j)) = if mulOk i j then some (.dat (.int (i * j))) else none := (rfl)
@[simp] theorem op_fdiv : opV .fdiv (.dat (.int i)) (.dat (.int j)) = if 0 < j ∧ j < 1606938044258990275541962092341162602522202993782792835301376 then some (.dat (.int (i / j))) else none := by
  show (if (decide (0 < j) && decide (j < 2 ^ 200)) = true then some (RV.dat (.int (i / j))) else none) = _
  rw [show (2 : Int) ^ 200 = 1606938044258990275541962092341162602522202993782792835301376 by decide +kernel]
  simp only [Bool.and_eq_true, decide_eq_true_eq]
@[simp] theorem op_mod : opV .mod (.dat (.int i)) (.dat (.int j)) = if 0 < j then some (.dat (.int (i % j))) else none := by
  show (if (decide (0 < j)) = true then some (RV.dat (.int (i % j))) else none) = _
  simp only [decide_eq_true_eq]
theorem okLen_iff {n : Nat} : (okLen n = true) = (n ≤ 16777216) := by
  show (Nat.ble n 16777216 = true) = _
  rw [Nat.ble_eq]
@[simp] theorem op_addT : opV .add (.dat (.tuple a)) (.dat (.tuple b)) = if a.length + b.length ≤ 16777216 then some (.dat (.tuple (a ++ b))) else none := by
  show (if okLen (a.length + b.length) = true then some (RV.dat (.tuple (a ++ b))) else none) = _
  simp only [okLen_iff]
@[simp] theorem op_addLL : opV .add (.lst a) (.lst b) = if a.length + b.length ≤ 16777216 then some (.own (.lst (a ++ b))) else none := by
  show (if okLen (a.length + b.length) = true then some (RV.own (.lst (a ++ b))) else none) = _
  simp only [okLen_iff]
@[simp] theorem op_addLD : opV .add (.lst a) (.dat (.list b)) = if a.length + b.length ≤ 16777216 then some (.own (.lst (a ++ b))) else none := by
  show (if okLen (a.length + b.length) = true then some (RV.own (.lst (a ++ b))) else none) = _
  simp only [okLen_iff]
@[simp] theorem op_addDL : opV .add (.dat (.list a)) (.lst b) = if a.length + b.length ≤ 16777216 then some (.own (.lst (a ++ b))) else none := by
  show (if okLen (a.length + b.length) = true then some (RV.own (.lst (a ++ b))) else none) = _
  simp only [okLen_iff]
@[simp] theorem op_addDD : opV .add (.dat (.list a)) (.dat (.list b)) = if a.length + b.length ≤ 16777216 then some (.own (.lst (a ++ b))) else none := by
  show (if okLen (a.length + b.length) = true then some (RV.own (.lst (a ++ b))) else none) = _
  simp only [okLen_iff]
@[simp] theorem aug_add : augV .add (.int i) (.int j) = some (.int (i + j)) := (rfl)
@[simp] theorem aug_sub : augV .sub (.int i) (.int j) = some (.int (i - j)) := (rfl)
@[simp] theorem cmp_eqI : cmpV .eq (.dat (.int i)) (.dat (.int j)) = some (decide (i = j)) := (rfl)
@[simp] theorem cmp_neI : cmpV .ne (.dat (.int i)) (.dat (.int j)) = some (!decide (i = j)) := (rfl)
@[simp] theorem cmp_lt : cmpV .lt (.dat (.int i)) (.dat (.int j)) = some (decide (i < j)) := (rfl)
@[simp] theorem cmp_le : cmpV .le (.dat (.int i)) (.dat (.int j)) = some (decide (i ≤ j)) := (rfl)
@[simp] theorem cmp_gt : cmpV .gt (.dat (.int i)) (.dat (.int j)) = some (decide (j < i)) := (rfl)
@[simp] theorem cmp_ge : cmpV .ge (.dat (.int i)) (.dat (.int j)) = some (decide (j ≤ i)) := (rfl)
@[simp] theorem cmp_eqS (hu : eqOk (.str u) = true) (hv : eqOk (.str v) = true) : cmpV .eq (.dat (.str u)) (.dat (.str v)) = some (u == v) := by
  show (if (eqOk (.str u) && eqOk (.str v)) = true then some (PyData.eqv (.str u) (.str v)) else none) = _
  rw [hu, hv]
  simp [PyData.eqv]
@[simp] theorem cmp_neS (hu : eqOk (.str u) = true) (hv : eqOk (.str v) = true) : cmpV .ne (.dat (.str u)) (.dat (.str v)) = some (!(u == v)) := by
  show (cmpV .eq (.dat (.str u)) (.dat (.str v))).map (!·) = _
  rw [cmp_eqS hu hv]
  rfl
@[simp] theorem cmp_isB {x y : Bool} : cmpV .is (.dat (.bool x)) (.dat (.bool y)) = some (x == y) := (rfl)
@[simp] theorem cmp_isnotB {x y : Bool} : cmpV .isnot (.dat (.bool x)) (.dat (.bool y)) = some (!(x == y)) := (rfl)
@[simp] theorem cmp_isN : cmpV .isNone (.dat .none) (.dat .none) = some true := (rfl)
@[simp] theorem cmp_isNt : cmpV .isNone (.dat (.tuple a)) (.dat .none) = some false := (rfl)
@[simp] theorem cmp_isNi : cmpV .isNone (.dat (.int i)) (.dat .none) = some false := (rfl)
@[simp] theorem cmp_notN : cmpV .notNone (.dat .none) (.dat .none) = some false := (rfl)
@[simp] theorem cmp_notNt : cmpV .notNone (.dat (.tuple a)) (.dat .none) = some true := (rfl)
@[simp] theorem cmp_notNi : cmpV .notNone (.dat (.int i)) (.dat .none) = some true := (rfl)
/-! ### subscripts -/
@[simp] theorem atI_nn {α : Type} {xs : List α} {k : Int} (h : 0 ≤ k) : L2.atI xs k = xs[k.toNat]? := by
  unfold L2.atI L2.ixN
  rw [if_pos h]
  by_cases h2 : k < xs.length
  · rw [if_pos h2]; rfl
  · rw [if_neg h2, List.getElem?_eq_none (by omega)]; rfl
@[simp] theorem atI_nat' {α : Type} {xs : List α} {k : Nat} : L2.atI xs (k : Int) = xs[k]? := atI_nn (by omega)
@[simp] theorem atI_suc {α : Type} {xs : List α} {k : Nat} : L2.atI xs ((k : Int) + 1) = xs[k + 1]? := atI_nn (by omega)
@[simp] theorem setIn_nn {α : Type} {xs : List α} {k : Int} {v : α} (h : 0 ≤ k) : setIn xs k v = if k < xs.length then some (xs.set k.toNat v) else none := by
  unfold setIn L2.ixN
  rw [if_pos h]
  by_cases h2 : k < xs.length
  · rw [if_pos h2, if_pos h2]; rfl
  · rw [if_neg h2, if_neg h2]; rfl
@[simp] theorem setIn_nat {α : Type} {xs : List α} {n : Nat} {v : α} : setIn xs (n : Int) v = if n < xs.length then some (xs.set n v) else none := by
  rw [setIn_nn (by omega)]
  by_cases h : n < xs.length
  · rw [if_pos h, if_pos (by omega)]; rfl
  · rw [if_neg h, if_neg (by omega)]
@[simp] theorem putV_l {ds : List D} {k : Int} {d : D} : putV (.lst ds) (.int k) d = (setIn ds k d).map .lst := (rfl)
@[simp] theorem putV_T {kvs : List (List Key × D)} {ks : List D} {d : D} : putV (.dT kvs) (.tuple ks) d = if kvs.length < 16777216 then (keysOf ks).map fun k => .dT (putA kvs k d) else none := by
  show (if Nat.blt kvs.length 16777216 = true then _ else none) = _
  by_cases h : kvs.length < 16777216
  · rw [if_pos h, if_pos (Nat.blt_eq.mpr h)]
  · rw [if_neg h, if_neg (fun e => h (Nat.blt_eq.mp e))]
@[simp] theorem mulOk_eq {i j : Int} : mulOk i j = ((decide (-18446744073709551616 < i) && decide (i < 18446744073709551616)) || (decide (-18446744073709551616 < j) && decide (j < 18446744073709551616))) := by
  unfold mulOk
  rw [show (2 : Int) ^ 64 = 18446744073709551616 by decide +kernel]
@[simp] theorem op_pow {i j : Int} : opV .pow (.dat (.int i)) (.dat (.int j)) = if 0 ≤ j ∧ j ≤ 1000 ∧ i.natAbs < 18446744073709551616 then some (.dat (.int (i ^ j.toNat))) else none := by
  show (if (decide (0 ≤ j) && decide (j ≤ 1000) && decide (i.natAbs < 2 ^ 64)) = true then some (RV.dat (.int (i ^ j.toNat))) else none) = _
  rw [show (2 : Nat) ^ 64 = 18446744073709551616 by decide +kernel]
  simp only [Bool.and_eq_true, decide_eq_true_eq, and_assoc]
@[simp] theorem atI_m1 {α : Type} {xs : List α} : L2.atI xs (-1) = xs.getLast? := by
  unfold L2.atI L2.ixN
  rw [if_neg (by omega)]
  cases xs with
  | nil => rfl
  | cons x xs =>
    rw [if_pos (by simp; omega), List.getLast?_eq_getElem?]
    simp only [Option.bind_some]
    congr 1
    simp
    omega
@[simp] theorem sub_T : subV (.dat (.tuple a)) (.dat (.int i)) = (L2.atI a i).map .dat := (rfl)
@[simp] theorem sub_L : subV (.dat (.list a)) (.dat (.int i)) = (L2.atI a i).map .dat := (rfl)
@[simp] theorem sub_l : subV (.lst a) (.dat (.int i)) = (L2.atI a i).map .dat := (rfl)
@[simp] theorem sub_r {dss : List (List D)} : subV (.rows dss) (.dat (.int i)) = (L2.atI dss i).map .inn := (rfl)
@[simp] theorem sub_dT {kvs : List (List Key × D)} : subV (.dT kvs) (.dat (.tuple a)) = (keysOf a).bind fun k => (lookA kvs k).map .dat := (rfl)
@[simp] theorem keysOf_nil : keysOf [] = some [] := (rfl)
@[simp] theorem keysOf_int {r : List D} : keysOf (.int i :: r) = (keysOf r).map (.inl i :: ·) := by
  show (match keyOf (.int i), keysOf r with
    | some k, some ks => some (k :: ks)
    | _, _ => none) = _
  cases keysOf r <;> rfl
@[simp] theorem keysOf_str {r : List D} : keysOf (.str u :: r) = (keysOf r).map (.inr u :: ·) := by
  show (match keyOf (.str u), keysOf r with
    | some k, some ks => some (k :: ks)
    | _, _ => none) = _
  cases keysOf r <;> rfl
/-! ### built-ins -/
@[simp] theorem seqOf_t : seqOf (.dat (.tuple a)) = some a := (rfl)
@[simp] theorem seqOf_L : seqOf (.dat (.list a)) = some a := (rfl)
@[simp] theorem seqOf_l : seqOf (.lst a) = some a := (rfl)
@[simp] theorem bi_lenT : biV .len [.dat (.tuple a)] = some (.dat (.int a.length)) := (rfl)
@[simp] theorem bi_lenL : biV .len [.dat (.list a)] = some (.dat (.int a.length)) := (rfl)
@[simp] theorem bi_lenl : biV .len [.lst a] = some (.dat (.int a.length)) := (rfl)
@[simp] theorem bi_tupT : biV .tuple [.dat (.tuple a)] = some (.dat (.tuple a)) := (rfl)
@[simp] theorem bi_tupL : biV .tuple [.dat (.list a)] = some (.dat (.tuple a)) := (rfl)
@[simp] theorem bi_tupl : biV .tuple [.lst a] = some (.dat (.tuple a)) := (rfl)
@[simp] theorem bi_lstT : biV .list [.dat (.tuple a)] = some (.own (.lst a)) := (rfl)
@[simp] theorem bi_lstL : biV .list [.dat (.list a)] = some (.own (.lst a)) := (rfl)
@[simp] theorem bi_lstl : biV .list [.lst a] = some (.own (.lst a)) := (rfl)
def isTupleD (d : D) : Bool := match d with
  | .tuple _ => true
  | _ => false
@[simp] theorem isTupleD_none : isTupleD .none = false := (rfl)
@[simp] theorem isTupleD_bool {b0 : Bool} : isTupleD (.bool b0) = false := (rfl)
@[simp] theorem isTupleD_int {i0 : Int} : isTupleD (.int i0) = false := (rfl)
@[simp] theorem isTupleD_str {u0 : Str} : isTupleD (.str u0) = false := (rfl)
@[simp] theorem isTupleD_tuple : isTupleD (.tuple a) = true := (rfl)
@[simp] theorem isTupleD_list : isTupleD (.list a) = false := (rfl)
@[simp] theorem bi_isTuple {d : D} : biV .isTuple [.dat d] = some (.dat (.bool (isTupleD d))) := (rfl)
@[simp] theorem bi_isTuplel : biV .isTuple [.lst a] = some (.dat (.bool false)) := (rfl)
def isListD (d : D) : Bool := match d with
  | .list _ => true
  | _ => false
@[simp] theorem isListD_none : isListD .none = false := (rfl)
@[simp] theorem isListD_bool {b0 : Bool} : isListD (.bool b0) = false := (rfl)
@[simp] theorem isListD_int {i0 : Int} : isListD (.int i0) = false := (rfl)
@[simp] theorem isListD_str {u0 : Str} : isListD (.str u0) = false := (rfl)
@[simp] theorem isListD_tuple : isListD (.tuple a) = false := (rfl)
@[simp] theorem isListD_list : isListD (.list a) = true := (rfl)
@[simp] theorem bi_isList {d : D} : biV .isList [.dat d] = some (.dat (.bool (isListD d))) := (rfl)
@[simp] theorem bi_isListl : biV .isList [.lst a] = some (.dat (.bool true)) := (rfl)
def isStrD (d : D) : Bool := match d with
  | .str _ => true
  | _ => false
@[simp] theorem isStrD_none : isStrD .none = false := (rfl)
@[simp] theorem isStrD_bool {b0 : Bool} : isStrD (.bool b0) = false := (rfl)
@[simp] theorem isStrD_int {i0 : Int} : isStrD (.int i0) = false := (rfl)
@[simp] theorem isStrD_str {u0 : Str} : isStrD (.str u0) = true := (rfl)
@[simp] theorem isStrD_tuple : isStrD (.tuple a) = false := (rfl)
@[simp] theorem isStrD_list : isStrD (.list a) = false := (rfl)
@[simp] theorem bi_isStr {d : D} : biV .isStr [.dat d] = some (.dat (.bool (isStrD d))) := (rfl)
@[simp] theorem bi_isStrl : biV .isStr [.lst a] = some (.dat (.bool false)) := (rfl)
def isIntD (d : D) : Bool := match d with
  | .int _ => true
  | .bool _ => true
  | _ => false
@[simp] theorem isIntD_none : isIntD .none = false := (rfl)
@[simp] theorem isIntD_bool {b0 : Bool} : isIntD (.bool b0) = true := (rfl)
@[simp] theorem isIntD_int {i0 : Int} : isIntD (.int i0) = true := (rfl)
@[simp] theorem isIntD_str {u0 : Str} : isIntD (.str u0) = false := (rfl)
@[simp] theorem isIntD_tuple : isIntD (.tuple a) = false := (rfl)
@[simp] theorem isIntD_list : isIntD (.list a) = false := (rfl)
@[simp] theorem bi_isInt {d : D} : biV .isInt [.dat d] = some (.dat (.bool (isIntD d))) := (rfl)
@[simp] theorem bi_isIntl : biV .isInt [.lst a] = some (.dat (.bool false)) := (rfl)
def isBoolD (d : D) : Bool := match d with
  | .bool _ => true
  | _ => false
@[simp] theorem isBoolD_none : isBoolD .none = false := (rfl)
@[simp] theorem isBoolD_bool {b0 : Bool} : isBoolD (.bool b0) = true := (rfl)
@[simp] theorem isBoolD_int {i0 : Int} : isBoolD (.int i0) = false := (rfl)
@[simp] theorem isBoolD_str {u0 : Str} : isBoolD (.str u0) = false := (rfl)
@[simp] theorem isBoolD_tuple : isBoolD (.tuple a) = false := (rfl)
@[simp] theorem isBoolD_list : isBoolD (.list a) = false := (rfl)
@[simp] theorem bi_isBool {d : D} : biV .isBool [.dat d] = some (.dat (.bool (isBoolD d))) := (rfl)
@[simp] theorem bi_isBooll : biV .isBool [.lst a] = some (.dat (.bool false)) := (rfl)
@[simp] theorem bi_int : biV .int [.dat (.int i)] = some (.dat (.int i)) := (rfl)
@[simp] theorem bi_abs : biV .abs [.dat (.int i)] = some (.dat (.int (if i < 0 then -i else i))) := (rfl)
@[simp] theorem bi_all {bs : List Bool} : biV .all [.lst (bs.map PyData.bool)] = some (.dat (.bool (bs.all id))) := by
  have h : ∀ bs : List Bool, boolsOf (bs.map PyData.bool) = some bs := by
    intro bs
    induction bs with
    | nil => rfl
    | cons b bs ih => simp [boolsOf, ih]
  show ((boolsOf (bs.map PyData.bool)).map fun bs => RV.dat (.bool (bs.all id))) = _
  rw [h]; rfl
@[simp] theorem intsOf_nil : intsOf [] = some [] := (rfl)
@[simp] theorem intsOf_cons {i : Int} {r : List D} : intsOf (.int i :: r) = (intsOf r).map (i :: ·) := (rfl)
def minK (o : Option (List Int)) : Option RV := match o with
  | some (n :: ns) => some (.dat (.int (minI n ns)))
  | _ => none
@[simp] theorem minK_some {n : Int} {ns : List Int} : minK (some (n :: ns)) = some (.dat (.int (minI n ns))) := (rfl)
def maxK (o : Option (List Int)) : Option RV := match o with
  | some (n :: ns) => some (.dat (.int (maxI n ns)))
  | _ => none
@[simp] theorem maxK_some {n : Int} {ns : List Int} : maxK (some (n :: ns)) = some (.dat (.int (maxI n ns))) := (rfl)
@[simp] theorem bi_minl : biV .min [.lst a] = minK (intsOf a) := (rfl)
@[simp] theorem bi_minL : biV .min [.dat (.list a)] = minK (intsOf a) := (rfl)
@[simp] theorem bi_maxl : biV .max [.lst a] = maxK (intsOf a) := (rfl)
@[simp] theorem bi_maxL : biV .max [.dat (.list a)] = maxK (intsOf a) := (rfl)
@[simp] theorem minI_nil {m : Int} : minI m [] = m := (rfl)
@[simp] theorem minI_cons {m x : Int} {r : List Int} : minI m (x :: r) = minI (if x < m then x else m) r := (rfl)
@[simp] theorem maxI_nil {m : Int} : maxI m [] = m := (rfl)
@[simp] theorem maxI_cons {m x : Int} {r : List Int} : maxI m (x :: r) = maxI (if m < x then x else m) r := (rfl)
@[simp] theorem bi_max2 : biV .max2 [.dat (.int i), .dat (.int j)] = some (.dat (.int (if j > i then j else i))) := (rfl)
@[simp] theorem bi_min2 : biV .min2 [.dat (.int i), .dat (.int j)] = some (.dat (.int (if j < i then j else i))) := (rfl)
@[simp] theorem gb_nil {δ : Sts} : giveBack [] [] δ = some δ := (rfl)
@[simp] theorem gb_dat {d : D} {r : List RV} {s : Ev.Slot} {bs : List Ev.Slot} {δ : Sts} : giveBack (.dat d :: r) (s :: bs) δ = giveBack r bs δ := (rfl)
@[simp] theorem gb_loc {k : Nat} {r : List RV} {s : Ev.Slot} {bs : List Ev.Slot} {δ : Sts} : giveBack (.loc k :: r) (s :: bs) δ = giveBack r bs (δ.set k s) := (rfl)
@[simp] theorem ao_nil {δ : Sts} : argsOf [] δ = some [] := (rfl)
@[simp] theorem ao_dat {d : D} {r : List RV} {δ : Sts} : argsOf (.dat d :: r) δ = (argsOf r δ).map (.dat d :: ·) := (rfl)
@[simp] theorem ao_loc {k : Nat} {r : List RV} {δ : Sts} : argsOf (.loc k :: r) δ = (argsOf r δ).map (getS δ k :: ·) := (rfl)
@[simp] theorem lo_nil : locsOf [] = [] := (rfl)
@[simp] theorem lo_dat {d : D} {r : List RV} : locsOf (.dat d :: r) = locsOf r := (rfl)
@[simp] theorem lo_loc {k : Nat} {r : List RV} : locsOf (.loc k :: r) = k :: locsOf r := (rfl)
@[simp] theorem nd_nil : nodupN [] = true := (rfl)
@[simp] theorem nd_cons {k : Nat} {r : List Nat} : nodupN (k :: r) = (!r.contains k && nodupN r) := (rfl)
end
/-! ### tables -/
theorem look_put {κ : Type} [DecidableEq κ] (kvs : List (κ × D)) (k k' : κ) (d : D) : lookA (putA kvs k d) k' = if k = k' then some d else lookA kvs k' := by
  unfold putA
  by_cases h : (kvs.any fun kv => decide (kv.1 = k)) = true
  · rw [if_pos h]
    induction kvs with
    | nil => simp at h
    | cons kv kvs ih =>
      obtain ⟨k1, d1⟩ := kv
      simp only [List.map_cons]
      by_cases e : k1 = k
      · subst e
        simp only [if_true]
        unfold lookA
        by_cases e2 : k1 = k'
        · simp [e2]
        · simp only [if_neg e2]
          by_cases h3 : (kvs.any fun kv => decide (kv.1 = k1)) = true
          · rw [ih h3, if_neg e2]
          · have e3 : (kvs.map fun kv => if kv.1 = k1 then (kv.1, d) else kv) = kvs := by
              conv => rhs; rw [← List.map_id kvs]
              apply List.map_congr_left
              intro kv hkv
              rw [if_neg]; rfl
              intro e4
              exact h3 (List.any_eq_true.mpr ⟨kv, hkv, by simp [e4]⟩)
            rw [e3]
      · simp only [if_neg e]
        have h3 : (kvs.any fun kv => decide (kv.1 = k)) = true := by simpa [e] using h
        unfold lookA
        by_cases e2 : k1 = k'
        · subst e2
          simp [Ne.symm e]
        · simp only [if_neg e2]
          exact ih h3
  · rw [if_neg h]
    induction kvs with
    | nil => simp [lookA]
    | cons kv kvs ih =>
      obtain ⟨k1, d1⟩ := kv
      have h1 : ¬(k1 = k) := fun e => h (by simp [e])
      have h2 : ¬((kvs.any fun kv => decide (kv.1 = k)) = true) := fun e => h (by simp only [List.any_cons, e, Bool.or_true])
      show lookA ((k1, d1) :: (kvs ++ [(k, d)])) k' = _
      unfold lookA
      by_cases e2 : k1 = k'
      · subst e2; simp [Ne.symm h1]
      · simp only [if_neg e2]
        exact ih h2
theorem put_len {κ : Type} [DecidableEq κ] (kvs : List (κ × D)) (k : κ) (d : D) : (putA kvs k d).length ≤ kvs.length + 1 := by
  unfold putA
  split <;> simp
/-! ### quiet -/
@[simp] theorem q_var {i : Nat} : (E.var i).quiet = true := (rfl)
@[simp] theorem q_cst {d : D} : (E.cst d).quiet = true := (rfl)
@[simp] theorem q_glb {x : Str} {d : D} : (E.glb x d).quiet = true := (rfl)
@[simp] theorem q_tup {es : Es} : (E.tup es).quiet = es.quiet := (rfl)
@[simp] theorem q_lst {es : Es} : (E.lst es).quiet = es.quiet := (rfl)
@[simp] theorem q_bi {b : Bi} {es : Es} : (E.bi b es).quiet = es.quiet := (rfl)
@[simp] theorem q_bin {op : Op} {a b : E} : (E.bin op a b).quiet = (a.quiet && b.quiet) := (rfl)
@[simp] theorem q_cmp {op : Cmp} {a b : E} : (E.cmp op a b).quiet = (a.quiet && b.quiet) := (rfl)
@[simp] theorem q_sub {a b : E} : (E.sub a b).quiet = (a.quiet && b.quiet) := (rfl)
@[simp] theorem q_neg {a : E} : (E.neg a).quiet = a.quiet := (rfl)
@[simp] theorem q_nil : Es.nil.quiet = true := (rfl)
@[simp] theorem q_cons {e : E} {es : Es} : (Es.cons e es).quiet = (e.quiet && es.quiet) := (rfl)
/-! ### defs -/
def finF (F : Fn) (as : List Ev.Slot) (fl : Ev.Flow) : FRes := match fl with
    | .next δ => .ret (.dat .none) (backOf F as δ)
    | .ret r δ => outR F as r δ
    | .exc c δ => .exc c (backOf F as δ)
    | _ => .stuck
theorem run_of {T : List (Str × Fn)} {F : Fn} {n : Nat} {f : Str} {as : List Ev.Slot} {fl : Ev.Flow} (h : T.lookup f = some F) (hn : as.length = F.np) (hr : ∀ i ∈ F.reb, plainArg (as.getD i .emp) = true) (hb : evSs (evF T n) F.body (as ++ List.replicate (F.names.length - as.length) .emp) = fl) : evF T (n + 1) f as = finF F as fl := by
  show (match lookF T f with
    | some F => runFn (evF T n) F as
    | none => .stuck) = _
  unfold lookF
  rw [h]
  show runFn (evF T n) F as = _
  unfold runFn
  rw [if_pos ⟨hn, hr⟩, hb]
  cases fl <;> rfl
/-! ### loops -/
section
variable {call : Str → List Ev.Slot → FRes} {δ : Sts}
@[simp] theorem forS_nil {tg : Tg} {b : Ss} : forS call tg b [] δ = .next δ := (rfl)
/-- a loop, its turns by an invariant that counts them -/
theorem forS_inv {tg : Tg} {b : Ss} {I : Nat → Sts → Prop} : ∀ (ds : List D) (k : Nat) (δ : Sts), (∀ i d δ, ds[i]? = some d → I (k + i) δ → ∃ δ1 δ', asgD tg d δ = some δ1 ∧ evSs call b δ1 = .next δ' ∧ I (k + i + 1) δ') → I k δ → ∃ δ', forS call tg b ds δ = .next δ' ∧ I (k + ds.length) δ'
  | [], k, δ, _, h => ⟨δ, rfl, h⟩
  | d :: ds, k, δ, hs, h => by
    obtain ⟨δ0, δ1, e0, e1, h1⟩ := hs 0 d δ rfl h
    obtain ⟨δ2, e2, h2⟩ := forS_inv ds (k + 1) δ1 (fun i d' δ' hd hi => by
      have := hs (i + 1) d' δ' (by simpa using hd) (by have e : k + (i + 1) = k + 1 + i := by omega
                                                       rw [e]; exact hi)
      have e : k + (i + 1) + 1 = k + 1 + i + 1 := by omega
      rw [e] at this
      exact this) h1
    refine ⟨δ2, ?_, ?_⟩
    · unfold forS forF
      rw [e0]
      show (match evSs call b δ0 with
        | .next δ' => forF (fun d δ => match asgD tg d δ with
      | some δ => evSs call b δ
      | none => .stuck) ds δ'
        | .cnt δ' => forF (fun d δ => match asgD tg d δ with
      | some δ => evSs call b δ
      | none => .stuck) ds δ'
        | .brk δ' => .next δ'
        | f => f) = _
      rw [e1]
      exact e2
    · have e : k + (d :: ds).length = k + 1 + ds.length := by simp; omega
      rw [e]; exact h2
/-- a loop over some list, by induction: the state that stands for a rest -/
theorem forS_go {tg : Tg} {b : Ss} {d : D} {ds : List D} {δ1 δ2 : Sts} {fl : Ev.Flow} (h0 : asgD tg d δ = some δ1) (h1 : evSs call b δ1 = .next δ2) (h2 : forS call tg b ds δ2 = fl) : forS call tg b (d :: ds) δ = fl := by
  unfold forS forF
  rw [h0]
  show (match evSs call b δ1 with
        | .next δ' => forF (fun d δ => match asgD tg d δ with
      | some δ => evSs call b δ
      | none => .stuck) ds δ'
        | .cnt δ' => forF (fun d δ => match asgD tg d δ with
      | some δ => evSs call b δ
      | none => .stuck) ds δ'
        | .brk δ' => .next δ'
        | f => f) = _
  rw [h1]
  exact h2
theorem forS_out {tg : Tg} {b : Ss} {d : D} {ds : List D} {δ1 δ2 : Sts} {r : RV} (h0 : asgD tg d δ = some δ1) (h1 : evSs call b δ1 = .ret r δ2) : forS call tg b (d :: ds) δ = .ret r δ2 := by
  unfold forS forF
  rw [h0]
  show (match evSs call b δ1 with
        | .next δ' => forF (fun d δ => match asgD tg d δ with
      | some δ => evSs call b δ
      | none => .stuck) ds δ'
        | .cnt δ' => forF (fun d δ => match asgD tg d δ with
      | some δ => evSs call b δ
      | none => .stuck) ds δ'
        | .brk δ' => .next δ'
        | f => f) = _
  rw [h1]
/-- a while loop by an invariant and a measure -/
theorem whS_inv {c : E} {b : Ss} {I P : Sts → Prop} {m : Sts → Nat} (hs : ∀ δ, I δ → ∃ k δ1, evT call c δ = .ok k δ1 ∧ (k = false → P δ1) ∧ (k = true → ∃ δ2, evSs call b δ1 = .next δ2 ∧ I δ2 ∧ m δ2 < m δ)) :
    ∀ (N : Nat) (δ : Sts), I δ → m δ < N → ∃ δ', whS call c b N δ = .next δ' ∧ P δ'
  | 0, δ, _, h => absurd h (Nat.not_lt_zero _)
  | N + 1, δ, hi, h => by
    obtain ⟨k, δ1, e, h1, h2⟩ := hs δ hi
    cases k with
    | false =>
      refine ⟨δ1, ?_, h1 rfl⟩
      unfold whS whileF
      rw [e]; rfl
    | true =>
      obtain ⟨δ2, e2, i2, m2⟩ := h2 rfl
      obtain ⟨δ3, e3, p3⟩ := whS_inv hs N δ2 i2 (by omega)
      refine ⟨δ3, ?_, p3⟩
      unfold whS whileF
      rw [e]
      show (match evSs call b δ1 with
        | .next δ2 => whileF (evT call c) (evSs call b) N δ2
        | .cnt δ2 => whileF (evT call c) (evSs call b) N δ2
        | .brk δ2 => .next δ2
        | f => f) = _
      rw [e2]
      exact e3
theorem whS_f {c : E} {b : Ss} {N : Nat} {δ1 : Sts} (h : evT call c δ = .ok false δ1) : whS call c b (N + 1) δ = .next δ1 := by
  unfold whS whileF
  rw [h]; rfl
theorem whS_t {c : E} {b : Ss} {N : Nat} {δ1 δ2 : Sts} {fl : Ev.Flow} (h : evT call c δ = .ok true δ1) (h1 : evSs call b δ1 = .next δ2) (h2 : whS call c b N δ2 = fl) : whS call c b (N + 1) δ = fl := by
  unfold whS whileF
  rw [h]
  show (match evSs call b δ1 with
        | .next δ2 => whileF (evT call c) (evSs call b) N δ2
        | .cnt δ2 => whileF (evT call c) (evSs call b) N δ2
        | .brk δ2 => .next δ2
        | f => f) = _
  rw [h1]
  exact h2
/-- a comprehension without tests whose turns are known -/
theorem compS_map {own : List Nat} {tg : Tg} {it : It} {elt : E} {δ δ1 : Sts} {ds : List D} {g : D → D} {I : Sts → Prop} (hi : evI call it δ = .ok ds δ1) (hp : (plainS δ1 own && okLen ds.length) = true) (h0 : I δ1)
    (hs : ∀ d ∈ ds, ∀ δ, I δ → ∃ δ2 δ3 r δ', asgD tg d (wipeS δ own) = some δ2 ∧ evE call elt δ2 = .ok r δ3 ∧ Ev.settle r δ3 = .ok (g d) δ' ∧ I δ') : ∃ δ2, I δ2 ∧ compS call own tg it .nil elt δ = .ok (.own (.lst (ds.map g))) (backS δ1 δ2 own) := by
  have key : ∀ (ds : List D) (acc : List D) (δ : Sts), (∀ d ∈ ds, ∀ δ, I δ → ∃ δ2 δ3 r δ', asgD tg d (wipeS δ own) = some δ2 ∧ evE call elt δ2 = .ok r δ3 ∧ Ev.settle r δ3 = .ok (g d) δ' ∧ I δ') → I δ → ∃ δ', compF (stepC own tg (evCs call .nil) (evE call elt)) ds acc δ = .ok (acc ++ ds.map g) δ' ∧ I δ' := by
    intro ds
    induction ds with
    | nil => exact fun acc δ _ h => ⟨δ, by simp [compF], h⟩
    | cons d ds ih =>
      intro acc δ hs h
      obtain ⟨δ2, δ3, r, δ4, e0, e1, e2, h1⟩ := hs d List.mem_cons_self δ h
      obtain ⟨δ5, e5, h5⟩ := ih (acc ++ [g d]) δ4 (fun d' hd => hs d' (List.mem_cons_of_mem _ hd)) h1
      refine ⟨δ5, ?_, h5⟩
      unfold compF stepC
      rw [e0]
      show (match ((evE call elt δ2).bind fun r δ => (Ev.settle r δ).bind fun y δ => Res.ok (some y) δ) with
        | .ok (some y) δ' => compF (stepC own tg (evCs call .nil) (evE call elt)) ds (acc ++ [y]) δ'
        | .ok none δ' => compF (stepC own tg (evCs call .nil) (evE call elt)) ds acc δ'
        | _ => .stuck) = _
      rw [e1]
      show (match ((Ev.settle r δ3).bind fun y δ => Res.ok (some y) δ) with
        | .ok (some y) δ' => compF (stepC own tg (evCs call .nil) (evE call elt)) ds (acc ++ [y]) δ'
        | .ok none δ' => compF (stepC own tg (evCs call .nil) (evE call elt)) ds acc δ'
        | _ => .stuck) = _
      rw [e2]
      show compF (stepC own tg (evCs call .nil) (evE call elt)) ds (acc ++ [g d]) δ4 = _
      rw [e5]
      simp
  obtain ⟨δ2, e2, h2⟩ := key ds [] δ1 hs h0
  refine ⟨δ2, h2, ?_⟩
  show (evI call it δ).bind (fun ds δ => if plainS δ own && okLen ds.length then
  (compF (stepC own tg (evCs call .nil) (evE call elt)) ds [] δ).bind fun ys δ' => Res.ok (RV.own (.lst ys)) (backS δ δ' own) else .stuck) = _
  rw [hi]
  show (if (plainS δ1 own && okLen ds.length) = true then _ else _) = _
  rw [if_pos hp, e2]
  rfl
end
end Wk

set_option Elab.async false
set_option linter.all false
set_option maxRecDepth 100000
set_option maxHeartbeats 1000000
/-! The plain law of k91: raw_script, script_of. -/
namespace Pl
open PySem Ev Core88 Wk
/-! ### paragraphs as simp sees them -/
@[simp] theorem bi_len_par {p : List Item} : biV .len [.dat (par p)] = some (.dat (.int p.length)) := by
  show some (RV.dat (.int ((p.map Item.enc).length : Nat))) = _
  rw [par_len]
@[simp] theorem sub_par {p : List Item} {k : Int} : subV (.dat (par p)) (.dat (.int k)) = (L2.atI (p.map Item.enc) k).map .dat := rfl
@[simp] theorem listD_par {p : List Item} : listD (par p) = some (p.map Item.enc) := rfl
@[simp] theorem eq_item' {a b : Item} : cmpV .eq (.dat a.enc) (.dat b.enc) = some (decide (a = b)) := eq_item a b
@[simp] theorem Tab_get' {f : Nat → Nat → Int} {m n i : Nat} : (Tab f m n)[i]? = if i < m then some (row (f i) n) else none := by
  split
  · exact Tab_get f (by assumption)
  · exact List.getElem?_eq_none (by rw [Tab_len]; omega)
@[simp] theorem row_get' {f : Nat → Int} {n j : Nat} : (row f n)[j]? = if j < n then some (.int (f j)) else none := by
  split
  · exact row_get f (by assumption)
  · exact List.getElem?_eq_none (by rw [row_len]; omega)
section
variable {call : Str → List Ev.Slot → FRes} {xs ys : List Item} {f : Nat → Nat → Int} {i j : Nat} {L : List D} {a b : Item}
end
end Pl

set_option Elab.async false
set_option linter.all false
set_option maxRecDepth 100000
set_option maxHeartbeats 1000000
/-! The plain law of k91: deeds, led_items, led_by, back_script, is_script. -/
namespace Pl
open PySem Ev Core88 Wk
@[simp] theorem bi_allp {p : D → Bool} {ds : List D} : biV .all [.lst (ds.map fun d => PyData.bool (p d))] = some (.dat (.bool (ds.all p))) := by
  have h := @bi_all (ds.map p)
  rw [List.map_map] at h
  have e : (PyData.bool ∘ p) = fun d => PyData.bool (p d) := rfl
  rw [e, List.all_map] at h
  exact h
/-! ### to compare -/
theorem eqv_map {α : Type} [DecidableEq α] {e : α → D} (h : ∀ a b, PyData.eqv (e a) (e b) = decide (a = b)) : ∀ xs ys : List α, PyData.eqvAll (xs.map e) (ys.map e) = decide (xs = ys)
  | [], [] => by simp [PyData.eqvAll]
  | [], y :: ys => by simp [PyData.eqvAll]
  | x :: xs, [] => by simp [PyData.eqvAll]
  | x :: xs, y :: ys => by
    have ih := eqv_map h xs ys
    simp [PyData.eqvAll, h, ih]
theorem par_lay (p : List Item) : Lay 2 (par p) := Lay.tup fun d hd => by
  obtain ⟨a, _, rfl⟩ := List.mem_map.mp hd
  exact enc_lay a
theorem par_eqv (p q : List Item) : PyData.eqv (par p) (par q) = decide (p = q) := by
  show PyData.eqvAll (p.map Item.enc) (q.map Item.enc) = _
  exact eqv_map enc_eqv p q
theorem eq_of_lay {d e : D} {k m : Nat} (hd : Lay k d) (he : Lay m e) (hk : k ≤ 64) (hm : m ≤ 64) : cmpV .eq (.dat d) (.dat e) = some (PyData.eqv d e) := by
  show (if (eqOk d && eqOk e) = true then some (PyData.eqv d e) else none) = _
  rw [hd.ok hk, he.ok hm]
  rfl
theorem ne_of_eq {d e : D} {b : Bool} (h : cmpV .eq (.dat d) (.dat e) = some b) : cmpV .ne (.dat d) (.dat e) = some (!b) := by
  show (cmpV .eq (.dat d) (.dat e)).map (!·) = _
  rw [h]; rfl
@[simp] theorem eq_par {p q : List Item} : cmpV .eq (.dat (par p)) (.dat (par q)) = some (decide (p = q)) := by
  rw [eq_of_lay (par_lay p) (par_lay q) (by decide) (by decide), par_eqv]
@[simp] theorem ne_par {p q : List Item} : cmpV .ne (.dat (par p)) (.dat (par q)) = some (!decide (p = q)) := ne_of_eq eq_par
@[simp] theorem eq_none_par {q : List Item} : cmpV .eq (.dat .none) (.dat (par q)) = some false := by
  rw [eq_of_lay (d := .none) (k := 0) (m := 2) ⟨by simp [PyData.canLay0], by simp [PyData.depth]⟩ (par_lay q) (by decide) (by decide)]
  rfl
@[simp] theorem isN_par {p : List Item} : cmpV .isNone (.dat (par p)) (.dat .none) = some false := (rfl)
@[simp] theorem notN_par {p : List Item} : cmpV .notNone (.dat (par p)) (.dat .none) = some true := (rfl)
@[simp] theorem isT_par {p : List Item} : isTupleD (par p) = true := (rfl)
@[simp] theorem tup_items {p : List Item} : PyData.tuple (p.map Item.enc) = par p := (rfl)
/-! ### deeds -/
def Deed.ok : Deed → Prop
  | .put a => a.ok
  | _ => True
theorem inV_two {u v : Str} (x : Str) : inV (.dat (.str x)) (.dat (.tuple [.str u, .str v])) = some (u == x || v == x) := by
  show some ((PyData.eqv (.str u) (.str x)) || ((PyData.eqv (.str v) (.str x)) || false)) = _
  simp [PyData.eqv]
@[simp] theorem cmp_in {x y : Ev.Slot} : cmpV .isin x y = inV x y := rfl
theorem item_none (n : Nat) : evF tbl (n + 3) s_is_5f_item [.dat .none] = .ret (.dat (.bool false)) [.dat .none] := by
  refine (run_of (F := f_is_item) (fl := .ret (.dat (.bool false)) [.dat .none, .emp]) rfl rfl (by simp [f_is_item]) ?_).trans rfl
  generalize evF tbl (n + 2) = call
  simp [f_is_item]
end Pl

set_option Elab.async false
set_option linter.all false
set_option maxRecDepth 100000
set_option maxHeartbeats 1000000
/-! The plain law of k91: led_items, led_by, back_script, is_script. -/
namespace Pl
open PySem Ev Core88 Wk
/-- what a script makes of some items, and which are left -/
def walk : List Item → List Deed → Option (List Item × List Item)
  | xs, [] => some ([], xs)
  | xs, .put a :: ds => (walk xs ds).map fun p => (a :: p.1, p.2)
  | [], _ :: _ => none
  | x :: xs, .keep :: ds => (walk xs ds).map fun p => (x :: p.1, p.2)
  | _ :: xs, .out :: ds => walk xs ds
termination_by _ ds => ds.length
theorem led_walk : ∀ (ds : List Deed) (xs : List Item), led xs ds = match walk xs ds with
    | some (f, []) => some f
    | _ => none
  | [], [] => by simp [led, walk]
  | [], x :: xs => by simp [led, walk]
  | .put a :: ds, xs => by
    rw [led, walk, led_walk ds xs]
    cases walk xs ds with
    | none => rfl
    | some p => obtain ⟨f, r⟩ := p; cases r <;> rfl
  | .keep :: ds, [] => by simp [led, walk]
  | .out :: ds, [] => by simp [led, walk]
  | .keep :: ds, x :: xs => by
    rw [led, walk, led_walk ds xs]
    cases walk xs ds with
    | none => rfl
    | some p => obtain ⟨f, r⟩ := p; cases r <;> rfl
  | .out :: ds, x :: xs => by rw [led, walk, led_walk ds xs]
section
variable {call : Str → List Ev.Slot → FRes} {xs : List Item} {dd : D} {s u : Ev.Slot}
end
def ledD (xs : List Item) (ds : List Deed) : D := match led xs ds with
  | some ys => par ys
  | none => .none
end Pl

set_option Elab.async false
set_option linter.all false
set_option maxRecDepth 100000
set_option maxHeartbeats 1000000
/-! The plain law of k91: led_by, back_script, is_script. -/
namespace Pl
open PySem Ev Core88 Wk
section
variable {call : Str → List Ev.Slot → FRes} {xs : List Item} {dd : D} {s u : Ev.Slot}
end
theorem walk_of_led {xs ys : List Item} {ds : List Deed} (h : led xs ds = some ys) : (walk xs ds).isSome = true := by
  rw [led_walk] at h
  cases e : walk xs ds with
  | none => rw [e] at h; cases h
  | some p => rfl
theorem ledD_some {xs ys : List Item} {ds : List Deed} (h : led xs ds = some ys) : ledD xs ds = par ys := by
  unfold ledD; rw [h]
theorem ledD_none {xs : List Item} {ds : List Deed} (h : led xs ds = none) : ledD xs ds = .none := by
  unfold ledD; rw [h]
end Pl

set_option Elab.async false
set_option linter.all false
set_option maxRecDepth 100000
set_option maxHeartbeats 1000000
/-! A law's hand: the drawn numbers. -/
namespace Pl
open PySem Ev Core88 Wk
/-- a hand as it stands -/
def IsHand (L : List D) : Prop := ∃ (cells : List Int) (p r s c : Int), L = [.list (cells.map .int), .int p, .int r, .int s, .int c] ∧ 0 ≤ p
def drawTail : Ss := match f__law_draw.body with
  | .cons _ ss => ss
  | _ => .nil
def num1 (s c : Int) : Int := ((s + 7919 * c) * 48271) % 2147483647
def num2 (n : Int) : Int := (n * (n / 1009 + 69621)) % 2147483647
def num3 (n : Int) : Int := (n * (n / 2003 + 40014)) % 2147483563
def num4 (s c : Int) : Int := num3 (num2 (num1 s c))
theorem draw_tail {call : Str → List Ev.Slot → FRes} {cl : D} {p r s c m : Int} {x y z : Ev.Slot} (hm : 0 < m) (hm2 : m < 1606938044258990275541962092341162602522202993782792835301376) : ∃ d h' x' y' z', 0 ≤ d ∧ d < m ∧ evSs call drawTail [.lst [cl, .int p, .int r, .int s, .int c], .dat (.int m), x, y, z] = .ret (.dat (.int d)) [.lst h', .dat (.int m), x', y', z'] ∧ ∃ r' c', h' = [cl, .int p, .int r', .int s, .int c'] := by
  by_cases h : 0 < r
  · refine ⟨r % m, [cl, .int p, .int (r / m), .int s, .int c], x, .dat (.int (r % m)), z, Int.emod_nonneg _ (by omega), Int.emod_lt_of_pos _ hm, ?_, _, _, rfl⟩
    simp [drawTail, f__law_draw, h, hm, hm2]
  · have n1 : 0 ≤ num1 s (c + 1) := Int.emod_nonneg _ (by decide)
    have n2 : num1 s (c + 1) < 2147483647 := Int.emod_lt_of_pos _ (by decide)
    have n3 : 0 ≤ num2 (num1 s (c + 1)) := Int.emod_nonneg _ (by decide)
    have n4 : num2 (num1 s (c + 1)) < 2147483647 := Int.emod_lt_of_pos _ (by decide)
    have e1 : -18446744073709551616 < num1 s (c + 1) := by omega
    have e2 : num1 s (c + 1) < 18446744073709551616 := by omega
    have e3 : -18446744073709551616 < num2 (num1 s (c + 1)) := by omega
    have e4 : num2 (num1 s (c + 1)) < 18446744073709551616 := by omega
    refine ⟨(num4 s (c + 1) / 16) % m, [cl, .int p, .int r, .int s, .int (c + 1)], x, y, .dat (.int (num4 s (c + 1))), Int.emod_nonneg _ (by omega), Int.emod_lt_of_pos _ hm, ?_, _, _, rfl⟩
    have f1 : ((s + 7919 * (c + 1)) * 48271) % 2147483647 = num1 s (c + 1) := rfl
    have f2 : (num1 s (c + 1) * (num1 s (c + 1) / 1009 + 69621)) % 2147483647 = num2 (num1 s (c + 1)) := rfl
    have f3 : (num2 (num1 s (c + 1)) * (num2 (num1 s (c + 1)) / 2003 + 40014)) % 2147483563 = num4 s (c + 1) := rfl
    simp [drawTail, f__law_draw, h, hm, f1, f2, f3, e1, e2, e3, e4]
theorem draw_ok0 {L : List D} (hL : IsHand L) {m : Int} (hm : 0 < m) (hm2 : m < 1606938044258990275541962092341162602522202993782792835301376) (n : Nat) : ∃ d L', 0 ≤ d ∧ d < m ∧ IsHand L' ∧ evF tbl (n + 1) s__5f_law_5f_draw [.lst L, .dat (.int m)] = .ret (.dat (.int d)) [.lst L', .dat (.int m)] := by
  obtain ⟨cells, p, r, s, c, rfl, hp⟩ := hL
  generalize hc : cells.map PyData.int = cl
  have go : ∀ (p r s c : Int) (x y z : Ev.Slot), 0 ≤ p → evSs (evF tbl n) f__law_draw.body [.lst [.list cl, .int p, .int r, .int s, .int c], .dat (.int m), .emp, .emp, .emp] = .ret (.dat (.int 0)) [] → True := fun _ _ _ _ _ _ _ _ _ => trivial
  have fin : ∀ {p' r' s' c' : Int} {x y z : Ev.Slot}, 0 ≤ p' → evSs (evF tbl n) f__law_draw.body [.lst [.list cl, .int p, .int r, .int s, .int c], .dat (.int m), .emp, .emp, .emp] = evSs (evF tbl n) drawTail [.lst [.list cl, .int p', .int r', .int s', .int c'], .dat (.int m), x, y, z] → ∃ d L', 0 ≤ d ∧ d < m ∧ IsHand L' ∧ evF tbl (n + 1) s__5f_law_5f_draw [.lst [.list cl, .int p, .int r, .int s, .int c], .dat (.int m)] = .ret (.dat (.int d)) [.lst L', .dat (.int m)] := by
    intro p' r' s' c' x y z hp' h
    obtain ⟨d, h', x', y', z', h1, h2, h3, r2, c2, h4⟩ := draw_tail (call := evF tbl n) (cl := .list cl) (p := p') (r := r') (s := s') (c := c') (x := x) (y := y) (z := z) hm hm2
    refine ⟨d, h', h1, h2, ⟨cells, p', r2, s', c2, by rw [hc]; exact h4, hp'⟩, ?_⟩
    exact (run_of (F := f__law_draw) (fl := .ret (.dat (.int d)) [.lst h', .dat (.int m), x', y', z']) rfl rfl (by simp [f__law_draw]) (h.trans h3)).trans rfl
  by_cases h1 : r = 0 ∧ p < cl.length
  · obtain ⟨h1, h2⟩ := h1
    subst h1
    obtain ⟨q, rfl⟩ : ∃ q : Nat, p = q := ⟨p.toNat, by omega⟩
    have h3 : q < cells.length := by rw [← hc, List.length_map] at h2; omega
    have h4 : cl[q]? = some (.int cells[q]) := by rw [← hc]; simp [h3]
    have h2' : q < cl.length := by omega
    have h4' : cl[q] = .int cells[q] := (List.getElem?_eq_some_iff.mp h4).2
    by_cases h5 : 1000000000000000000 ≤ cells[q]
    · refine fin (p' := (q : Int) + 1) (r' := cells[q]) (s' := (s * 69621 + cells[q] * 48271 + 57) % 2147483629) (c' := c) (x := .dat (.int cells[q])) (y := .emp) (z := .emp) (by omega) ?_
      generalize evF tbl n = call
      simp only [drawTail]
      simp [f__law_draw, h2', h4', h5]
    · refine fin (p' := (q : Int) + 1) (r' := 0) (s' := (s * 69621 + cells[q] * 48271 + 57) % 2147483629) (c' := c) (x := .dat (.int cells[q])) (y := .emp) (z := .emp) (by omega) ?_
      generalize evF tbl n = call
      simp only [drawTail]
      simp [f__law_draw, h2', h4', h5]
  · refine fin (p' := p) (r' := r) (s' := s) (c' := c) (x := .emp) (y := .emp) (z := .emp) hp ?_
    generalize evF tbl n = call
    by_cases h2 : r = 0
    · have h3 : ¬(p < cl.length) := fun e => h1 ⟨h2, e⟩
      simp only [drawTail]
      simp [f__law_draw, h2, h3]
    · simp only [drawTail]
      simp [f__law_draw, h2]
theorem draw_ok {L : List D} (hL : IsHand L) {m : Int} (hm : 0 < m) (hm2 : m < 1606938044258990275541962092341162602522202993782792835301376) (n : Nat) : ∃ (d : Nat) (L' : List D), (d : Int) < m ∧ IsHand L' ∧ evF tbl (n + 1) s__5f_law_5f_draw [.lst L, .dat (.int m)] = .ret (.dat (.int d)) [.lst L', .dat (.int m)] := by
  obtain ⟨d, L', h1, h2, h3, h4⟩ := draw_ok0 hL hm hm2 n
  obtain ⟨q, rfl⟩ : ∃ q : Nat, d = q := ⟨d.toNat, by omega⟩
  exact ⟨q, L', h2, h3, h4⟩
theorem any_ok {L : List D} (hL : IsHand L) {ds : List D} {sl : Ev.Slot} (hs : sl = .lst ds ∨ sl = .dat (.list ds)) (h0 : ds ≠ []) (hl : ds.length ≤ 16777216) (n : Nat) : ∃ d L', d ∈ ds ∧ IsHand L' ∧ evF tbl (n + 2) s__5f_law_5f_any [.lst L, sl] = .ret (.dat d) [.lst L', sl] := by
  have hp : 0 < ds.length := List.length_pos_iff.mpr h0
  obtain ⟨k, L', h1, h2, h3⟩ := draw_ok hL (m := (ds.length : Int)) (by omega) (by omega) n
  have h4 : k < ds.length := by omega
  refine ⟨ds[k], L', List.getElem_mem h4, h2, ?_⟩
  refine (run_of (F := f__law_any) (fl := .ret (.dat ds[k]) [.lst L', sl]) rfl rfl (by simp [f__law_any]) ?_).trans rfl
  generalize evF tbl (n + 1) = call at h3 ⊢
  rcases hs with rfl | rfl <;> simp [f__law_any, h3, h4]
def handCell : D → D
  | .int i => .int ((if i < 0 then -i else i) % 1000000000000000000000000000000000000)
  | _ => .none
theorem hand_ok (ns : List Int) (n : Nat) : ∃ L, IsHand L ∧ evF tbl (n + 1) s__5f_law_5f_hand [.scr ns] = .ret (.own (.lst L)) [.scr ns] := by
  generalize hd : (cutL ns none (some 63)).map PyData.int = ds
  have hl : ds.length ≤ 63 := by
    rw [← hd, List.length_map]
    unfold cutL
    rw [List.length_take]
    have : HT.sIx ns.length ns.length (some 63) = min 63 ns.length := rfl
    rw [this]
    show min (min 63 ns.length - 0) _ ≤ 63
    omega
  obtain ⟨δ2, ⟨s, rfl⟩, e⟩ := compS_map (call := evF tbl n) (own := [2]) (tg := .nm 2) (it := .seq (.slice (.var 0) .none (.some (.cst (.int 63))))) (elt := .bin .mod (.bi .int (.cons (.bi .abs (.cons (.bi .int (.cons (.var 2) .nil)) .nil)) .nil)) (.bin .pow (.cst (.int 10)) (.cst (.int 36)))) (δ := [.scr ns, .emp, .emp]) (δ1 := [.scr ns, .emp, .emp]) (ds := ds) (g := handCell) (I := fun δ => ∃ s, δ = [.scr ns, .emp, s])
    (by rw [← hd]; rfl) (by
      show (true && okLen ds.length) = true
      rw [Bool.true_and, okLen_iff]; omega) ⟨_, rfl⟩ (by
      rintro d h δ ⟨s, rfl⟩
      rw [← hd] at h
      obtain ⟨i, _, rfl⟩ := List.mem_map.mp h
      refine ⟨[.scr ns, .emp, .dat (.int i)], [.scr ns, .emp, .dat (.int i)], .dat (handCell (.int i)), [.scr ns, .emp, .dat (.int i)], rfl, ?_, rfl, _, rfl⟩
      simp [handCell])
  have e : compS (evF tbl n) [2] (.nm 2) (.seq (.slice (.var 0) .none (.some (.cst (.int 63))))) .nil (.bin .mod (.bi .int (.cons (.bi .abs (.cons (.bi .int (.cons (.var 2) .nil)) .nil)) .nil)) (.bin .pow (.cst (.int 10)) (.cst (.int 36)))) [.scr ns, .emp, .emp] = .ok (.own (.lst (ds.map handCell))) [.scr ns, .emp, .emp] := e
  have hc : ∃ cells : List Int, ds.map handCell = cells.map .int := by
    rw [← hd]
    refine ⟨(cutL ns none (some 63)).map fun i => (if i < 0 then -i else i) % 1000000000000000000000000000000000000, ?_⟩
    rw [List.map_map, List.map_map]; rfl
  obtain ⟨cells, hc⟩ := hc
  rw [hc] at e
  have hcl : (cells.map PyData.int).length < 1000000 := by rw [← hc, List.length_map]; omega
  refine ⟨[.list (cells.map .int), .int 0, .int 0, .int (8801 + 13 * ((cells.map PyData.int).length : Nat)), .int 0], ⟨cells, 0, 0, _, 0, rfl, by decide⟩, ?_⟩
  generalize cells.map PyData.int = cl at e hcl ⊢
  refine (run_of (F := f__law_hand) (fl := .ret (.own (.lst [.list cl, .int 0, .int 0, .int (8801 + 13 * (cl.length : Nat)), .int 0])) [.scr ns, .dat (.list cl), .emp]) rfl rfl (by simp [f__law_hand]) ?_).trans rfl
  generalize evF tbl n = call at e ⊢
  simp [f__law_hand, e]
end Pl

set_option Elab.async false
set_option linter.all false
set_option maxRecDepth 100000
set_option maxHeartbeats 1000000
/-! The plain law of k91: drawn paragraphs. -/
namespace Pl
open PySem Ev Core88 Wk
/-- a paragraph but for its length; its end is a box -/
structure Fine (p : List Item) : Prop where
  ok : ∀ a ∈ p, a.ok
  fst : ∃ k r, p = .box k :: r
  lst : ∃ k r, p = r ++ [.box k]
  ap : apart p = true
theorem Fine.good {p : List Item} (h : Fine p) (hl : p.length ≤ 40) : Good p := ⟨h.ok, hl, h.fst, h.lst, h.ap⟩
theorem apart_app : ∀ (p : List Item) (k : Nat) (r : List Item), apart (p ++ [.box k]) = true → apart (.box k :: r) = true → apart (p ++ .box k :: r) = true
  | [], k, r, _, h => h
  | [a], k, r, h, h2 => by
    show ((isBox a || isBox (.box k)) && apart (.box k :: r)) = true
    rw [h2]; simp [isBox]
  | a :: b :: p, k, r, h, h2 => by
    have h : ((isBox a || isBox b) && apart (b :: p ++ [.box k])) = true := h
    rw [Bool.and_eq_true] at h
    show ((isBox a || isBox b) && apart (b :: p ++ .box k :: r)) = true
    rw [h.1, apart_app (b :: p) k r h.2 h2]; rfl
theorem fine_one {k : Nat} (h : (Item.box k).ok) : Fine [.box k] := ⟨fun a ha => by simp at ha; subst ha; exact h, ⟨k, [], rfl⟩, ⟨k, [], rfl⟩, rfl⟩
theorem fine_box {p : List Item} {k : Nat} (h : Fine p) (hk : (Item.box k).ok) : Fine (p ++ [.box k]) := by
  obtain ⟨k1, r1, e1⟩ := h.fst
  obtain ⟨k2, r2, e2⟩ := h.lst
  refine ⟨fun a ha => ?_, ⟨k1, r1 ++ [.box k], by rw [e1]; rfl⟩, ⟨k, p, rfl⟩, ?_⟩
  · rcases List.mem_append.mp ha with ha | ha
    · exact h.ok a ha
    · simp at ha; subst ha; exact hk
  · rw [e2, List.append_assoc]
    have ha := h.ap
    rw [e2] at ha
    exact apart_app r2 k2 [.box k] ha rfl
theorem fine_two {p : List Item} {g : Item} {k : Nat} (h : Fine p) (hg : g.ok) (hk : (Item.box k).ok) : Fine (p ++ [g, .box k]) := by
  obtain ⟨k1, r1, e1⟩ := h.fst
  obtain ⟨k2, r2, e2⟩ := h.lst
  refine ⟨fun a ha => ?_, ⟨k1, r1 ++ [g, .box k], by rw [e1]; rfl⟩, ⟨k, p ++ [g], by simp⟩, ?_⟩
  · rcases List.mem_append.mp ha with ha | ha
    · exact h.ok a ha
    · simp at ha
      rcases ha with rfl | rfl
      · exact hg
      · exact hk
  · rw [e2, List.append_assoc]
    have ha := h.ap
    rw [e2] at ha
    exact apart_app r2 k2 [g, .box k] ha (by simp [apart, isBox])
def parBody : Ss := match f__law_paragraph.body with
  | .cons _ (.cons (.for _ _ b) _) => b
  | _ => .nil
theorem par_turn {L : List D} (hL : IsHand L) {p : List Item} (hp : Fine p) (hl : p.length ≤ 100) {t x y : Ev.Slot} (n : Nat) : ∃ L' p' x' y', IsHand L' ∧ Fine p' ∧ p'.length ≤ p.length + 2 ∧ evSs (evF tbl (n + 2)) parBody [.lst L, .lst (p.map Item.enc), t, x, y] = .next [.lst L', .lst (p'.map Item.enc), t, x', y'] := by
  obtain ⟨k, L1, k1, k2, k3⟩ := draw_ok hL (m := 5) (by decide) (by decide) (n + 1)
  have hl1 : p.length < 16777216 := by omega
  have hl2 : p.length + 1 < 16777216 := by omega
  by_cases h : k = 0
  · obtain ⟨b, L2, b1, b2, b3⟩ := draw_ok k2 (m := 6) (by decide) (by decide) (n + 1)
    refine ⟨L2, p ++ [.box (1 + b)], .dat (.int k), y, b2, fine_box hp ⟨by omega, by omega⟩, by simp, ?_⟩
    generalize evF tbl (n + 2) = call at k3 b3 ⊢
    subst h
    simp [parBody, f__law_paragraph, k3, b3, Item.enc, hl1]
  · obtain ⟨g, L2, g1, g2, g3⟩ := draw_ok k2 (m := 4) (by decide) (by decide) (n + 1)
    obtain ⟨c, L3, c1, c2, c3⟩ := draw_ok g2 (m := 3) (by decide) (by decide) (n + 1)
    obtain ⟨f, L4, f1, f2, f3⟩ := draw_ok c2 (m := 9) (by decide) (by decide) (n + 1)
    obtain ⟨d, L5, d1, d2, d3⟩ := any_ok f2 (ds := [.tuple [.str s_gap, .int g], .tuple [.str s_cut, .int c, .int f], .tuple [.str s_stop]]) (.inl rfl) (by simp) (by simp) n
    obtain ⟨b, L6, b1, b2, b3⟩ := draw_ok d2 (m := 6) (by decide) (by decide) (n + 1)
    obtain ⟨it, rfl, hit⟩ : ∃ it : Item, d = it.enc ∧ it.ok := by
      simp at d1
      rcases d1 with rfl | rfl | rfl
      · exact ⟨.gap g, rfl, by show g ≤ 1000; omega⟩
      · exact ⟨.cut c f, rfl, by constructor <;> omega⟩
      · exact ⟨.stop, rfl, trivial⟩
    refine ⟨L6, p ++ [it, .box (1 + b)], .dat (.int k), .lst [.tuple [.str s_gap, .int g], .tuple [.str s_cut, .int c, .int f], .tuple [.str s_stop]], b2, fine_two hp hit ⟨by omega, by omega⟩, by simp, ?_⟩
    generalize evF tbl (n + 2) = call at k3 g3 c3 f3 d3 b3 ⊢
    have h0 : 0 < k := by omega
    have e : p.map Item.enc ++ [it.enc, .tuple [.str s_box, .int (1 + (b : Int))]] = (p ++ [it, .box (1 + b)]).map Item.enc := by simp [Item.enc]
    rw [← e]
    simp [parBody, f__law_paragraph, k3, g3, c3, f3, d3, b3, hl1, hl2, h0]
theorem paragraph_ok {L : List D} (hL : IsHand L) (n : Nat) : ∃ L' p, IsHand L' ∧ Good p ∧ p.length ≤ 9 ∧ evF tbl (n + 3) s__5f_law_5f_paragraph [.lst L] = .ret (.dat (par p)) [.lst L'] := by
  obtain ⟨b, L1, b1, b2, b3⟩ := draw_ok hL (m := 6) (by decide) (by decide) (n + 1)
  obtain ⟨k, L2, k1, k2, k3⟩ := draw_ok b2 (m := 5) (by decide) (by decide) (n + 1)
  obtain ⟨δ', hw, L3, p, t, x, y, h1, h2, h3, rfl⟩ := forS_inv (call := evF tbl (n + 2)) (tg := .nm 2) (b := parBody) (I := fun i δ => ∃ L p t x y, IsHand L ∧ Fine p ∧ p.length ≤ 1 + 2 * i ∧ δ = [.lst L, .lst (p.map Item.enc), t, x, y]) (rangeL 0 1 k) 0 [.lst L2, .lst ([Item.box (1 + b)].map Item.enc), .emp, .emp, .emp] (by
    rintro i d δ hi ⟨L, p, t, x, y, h1, h2, h3, rfl⟩
    have hik := (range_get _ _ _ _ _ hi).1
    obtain ⟨L', p', x', y', g1, g2, g3, g4⟩ := par_turn h1 h2 (by omega) (t := .dat d) (x := x) (y := y) n
    exact ⟨_, _, rfl, g4, L', p', _, x', y', g1, g2, by omega, rfl⟩) ⟨L2, [.box (1 + b)], _, _, _, k2, fine_one ⟨by omega, by omega⟩, by simp, rfl⟩
  rw [range_len] at h3
  refine ⟨L3, p, h1, h2.good (by omega), by omega, ?_⟩
  refine (run_of (F := f__law_paragraph) (fl := .ret (.dat (par p)) [.lst L3, .lst (p.map Item.enc), t, x, y]) rfl rfl (by simp [f__law_paragraph]) ?_).trans rfl
  simp [parBody, f__law_paragraph, Item.enc] at hw
  have e1 : (k : Int) < 4611686018427387904 := by omega
  have e2 : (-4611686018427387904 : Int) ≤ k := by omega
  generalize evF tbl (n + 2) = call at b3 k3 hw ⊢
  simp [f__law_paragraph, b3, k3, hw, e1, e2]
end Pl

set_option Elab.async false
set_option linter.all false
set_option maxRecDepth 100000
set_option maxHeartbeats 1000000
/-! More of the evaluator as rules for simp. -/
namespace Wk
open PySem Ev
section
variable {call : Str → List Ev.Slot → FRes} {δ : Sts} {a : List D} {u v : Str} {i j : Int}
/-- one operand -/
def unK (f : Ev.Slot → Option RV) (r : RV) (δ : Sts) : Res RV := Res.ofOpt (f (Ev.view r δ)) δ
@[simp] theorem unK_eq {f : Ev.Slot → Option RV} {r : RV} : unK f r δ = Res.ofOpt (f (Ev.view r δ)) δ := (rfl)
@[simp] theorem ev_join {x : Option Str} {s : Str} {e : E} : evE call (.join x s e) δ = (evE call e δ).bind (unK (joinV s)) := (rfl)
@[simp] theorem ev_split {s : Str} {e : E} : evE call (.split s e) δ = (evE call e δ).bind (unK (splitV s)) := (rfl)
@[simp] theorem ev_rev {e : E} : evE call (.rev e) δ = (evE call e δ).bind (unK revV) := (rfl)
@[simp] theorem revV_lst : revV (.lst a) = some (.own (.lst a.reverse)) := (rfl)
@[simp] theorem revV_list : revV (.dat (.list a)) = some (.own (.lst a.reverse)) := (rfl)
def d1K3 (k d : D) (δ : Sts) : Res RV := Res.ofOpt ((keyOf k).map fun k => .own (.dK [(k, d)])) δ
@[simp] theorem d1K3_eq {k d : D} : d1K3 k d δ = Res.ofOpt ((keyOf k).map fun k => RV.own (.dK [(k, d)])) δ := (rfl)
def d1K2 (k : D) (rv : RV) (δ : Sts) : Res RV := (Ev.settle rv δ).bind (d1K3 k)
@[simp] theorem d1K2_eq {k : D} {rv : RV} : d1K2 k rv δ = (Ev.settle rv δ).bind (d1K3 k) := (rfl)
def d1K1 (call : Str → List Ev.Slot → FRes) (v : E) (rk : RV) (δ : Sts) : Res RV := match rk with
  | .dat k => (evE call v δ).bind (d1K2 k)
  | _ => .stuck
@[simp] theorem d1K1_dat {v : E} {k : D} : d1K1 call v (.dat k) δ = (evE call v δ).bind (d1K2 k) := (rfl)
@[simp] theorem ev_disp1 {k v : E} : evE call (.disp1 k v) δ = (evE call k δ).bind (d1K1 call v) := by
  show (evE call k δ).bind _ = (evE call k δ).bind _
  congr 1
@[simp] theorem keyOf_int : keyOf (.int i) = some (.inl i) := (rfl)
@[simp] theorem keyOf_str : keyOf (.str u) = some (.inr u) := (rfl)
def isDKb (s : Ev.Slot) : Bool := match s with
  | .dK _ => true
  | _ => false
@[simp] theorem isDKb_dK {kvs} : isDKb (.dK kvs) = true := (rfl)
def getKK (s : Ev.Slot) (k d : D) : Option RV := match s with
  | .dK kvs => (keyOf k).map fun k => .dat ((lookA kvs k).getD d)
  | _ => none
@[simp] theorem getKK_dK {kvs} {k d : D} : getKK (.dK kvs) k d = (keyOf k).map fun k => RV.dat ((lookA kvs k).getD d) := (rfl)
def g2K2 (x : Nat) (k : D) (rd : RV) (δ : Sts) : Res RV := match rd with
  | .dat d => Res.ofOpt (getKK (getS δ x) k d) δ
  | _ => .stuck
@[simp] theorem g2K2_dat {x : Nat} {k d : D} : g2K2 x k (.dat d) δ = Res.ofOpt (getKK (getS δ x) k d) δ := (rfl)
def g2K1 (call : Str → List Ev.Slot → FRes) (x : Nat) (d : E) (rk : RV) (δ : Sts) : Res RV := match rk with
  | .dat k => if isDKb (getS δ x) then (evE call d δ).bind (g2K2 x k) else .stuck
  | _ => .stuck
@[simp] theorem g2K1_dat {x : Nat} {d : E} {k : D} : g2K1 call x d (.dat k) δ = if isDKb (getS δ x) then (evE call d δ).bind (g2K2 x k) else .stuck := (rfl)
@[simp] theorem ev_get2 {x : Nat} {k d : E} : evE call (.get2 x k d) δ = if isDKb (getS δ x) then (evE call k δ).bind (g2K1 call x d) else .stuck := by
  show (if isDK (getS δ x) = true then (evE call k δ).bind _ else .stuck) = _
  have e : ∀ s, isDKb s = isDK s := fun s => rfl
  rw [e]
  congr 1
def g1K (x : Nat) (rk : RV) (δ : Sts) : Res RV := match rk with
  | .dat k => Res.ofOpt (getKK (getS δ x) k .none) δ
  | _ => .stuck
@[simp] theorem g1K_dat {x : Nat} {k : D} : g1K x (.dat k) δ = Res.ofOpt (getKK (getS δ x) k .none) δ := (rfl)
@[simp] theorem ev_get1 {x : Nat} {k : E} : evE call (.get1 x k) δ = if isDKb (getS δ x) then (evE call k δ).bind (g1K x) else .stuck := by
  show (if isDK (getS δ x) = true then (evE call k δ).bind _ else .stuck) = _
  have e : ∀ s, isDKb s = isDK s := fun s => rfl
  rw [e]
  congr 1
def zlK (d d2 : D) (δ : Sts) : Res RV := match d, d2 with
  | .tuple ds, .tuple es => .ok (.own (.lst (zipL ds es))) δ
  | _, _ => .stuck
@[simp] theorem zlK_tuple {ds es : List D} : zlK (.tuple ds) (.tuple es) δ = .ok (.own (.lst (zipL ds es))) δ := (rfl)
def zlK3 (d : D) (r : RV) (δ : Sts) : Res RV := (Ev.settle r δ).bind (zlK d)
@[simp] theorem zlK3_eq {d : D} {r : RV} : zlK3 d r δ = (Ev.settle r δ).bind (zlK d) := (rfl)
def zlK2 (call : Str → List Ev.Slot → FRes) (b : E) (d : D) (δ : Sts) : Res RV := (evE call b δ).bind (zlK3 d)
@[simp] theorem zlK2_eq {b : E} {d : D} : zlK2 call b d δ = (evE call b δ).bind (zlK3 d) := (rfl)
def zlK1 (call : Str → List Ev.Slot → FRes) (b : E) (r : RV) (δ : Sts) : Res RV := (Ev.settle r δ).bind (zlK2 call b)
@[simp] theorem zlK1_eq {b : E} {r : RV} : zlK1 call b r δ = (Ev.settle r δ).bind (zlK2 call b) := (rfl)
@[simp] theorem ev_zipl {a b : E} : evE call (.zipl a b) δ = (evE call a δ).bind (zlK1 call b) := (rfl)
def keysK (r : RV) (δ : Sts) : Res (List D) := match r with
  | .own (.dK kvs) => .ok (kvs.map fun kv => keyD kv.1) δ
  | _ => .stuck
@[simp] theorem keysK_dK {kvs} : keysK (.own (.dK kvs)) δ = .ok (kvs.map fun kv => keyD kv.1) δ := (rfl)
@[simp] theorem ei_keys {e : E} : evI call (.keys e) δ = (evE call e δ).bind keysK := by
  show (evE call e δ).bind _ = (evE call e δ).bind _
  congr 1
@[simp] theorem bi_sortl : biV .sorted [.lst a] = sortV a := (rfl)
@[simp] theorem bi_sortL : biV .sorted [.dat (.list a)] = sortV a := (rfl)
/-- an int's digits -/
def strI (i : Int) : Str := toString i
theorem bi_strI (h : i.natAbs.log2 < 1920) : biV .str [.dat (.int i)] = some (.dat (.str (strI i))) := by
  show (if Nat.blt i.natAbs.log2 1920 = true then some (RV.dat (.str (strI i))) else none) = _
  rw [if_pos (Nat.blt_eq.mpr h)]
theorem log2_lt {n k : Nat} (h : n < 2 ^ k) (hk : 0 < k) : n.log2 < k := by
  by_cases h0 : n = 0
  · subst h0; simpa using hk
  · exact (Nat.log2_lt h0).mpr h
/-- ints no wider than the program's -/
theorem bi_strS (h : i.natAbs < 2 ^ 900) : biV .str [.dat (.int i)] = some (.dat (.str (strI i))) :=
  bi_strI (Nat.lt_of_lt_of_le (log2_lt h (by decide)) (by decide))
theorem sortV_ints (ns : List Int) : sortV (ns.map PyData.int) = some (.own (.lst ((sortI ns).map .int))) := by
  have h : ∀ ns : List Int, intsOf (ns.map PyData.int) = some ns := by
    intro ns
    induction ns with
    | nil => rfl
    | cons n ns ih => show (intsOf (ns.map PyData.int)).map (n :: ·) = _; rw [ih]; rfl
  show (match intsOf (ns.map PyData.int) with
    | some ns => some (RV.own (.lst ((sortI ns).map .int)))
    | none => (pairsOf (ns.map PyData.int)).map fun ps => .own (.lst ((sortP ps).map pairD))) = _
  rw [h]
theorem sortV_pairs (ps : List (Int × Int)) : sortV (ps.map pairD) = some (.own (.lst ((sortP ps).map pairD))) := by
  have h : ∀ ps : List (Int × Int), pairsOf (ps.map pairD) = some ps := by
    intro ps
    induction ps with
    | nil => rfl
    | cons n ns ih => show (pairsOf (ns.map pairD)).map ((n.1, n.2) :: ·) = _; rw [ih]; rfl
  cases ps with
  | nil => simp [sortV, intsOf, sortI, sortP]
  | cons p ps =>
    show (match intsOf ((p :: ps).map pairD) with
      | some ns => some (RV.own (.lst ((sortI ns).map .int)))
      | none => (pairsOf ((p :: ps).map pairD)).map fun ps => .own (.lst ((sortP ps).map pairD))) = _
    rw [h]
    rfl
@[simp] theorem op_addS : opV .add (.dat (.str u)) (.dat (.str v)) = if u.length + v.length ≤ 16777216 then some (.dat (.str (u ++ v))) else none := by
  show (if okLen (u.length + v.length) = true then some (RV.dat (.str (u ++ v))) else none) = _
  simp only [okLen_iff]
@[simp] theorem strsOf_map {ys : List Str} : strsOf (ys.map PyData.str) = some ys := by
  induction ys with
  | nil => rfl
  | cons y ys ih => show (strsOf (ys.map PyData.str)).map (y :: ·) = _; rw [ih]; rfl
theorem joinV_ok {s : Str} {x : Ev.Slot} {ys : List Str} (hx : seqOf x = some (ys.map PyData.str)) (hl : (ys.map (·.length)).sum + ys.length * s.length ≤ 16777216) : joinV s x = some (.dat (.str (PySem.Txt.join s ys))) := by
  unfold joinV
  rw [hx, Option.bind_some, strsOf_map, Option.bind_some, if_pos (by rw [okLen_iff]; exact hl)]
@[simp] theorem sub_S : subV (.dat (.str u)) (.dat (.int i)) = if u.length ≤ 16777216 then (L2.atI u.cps.toList i).map fun c => RV.dat (.str ⟨#[c]⟩) else none := by
  show (if okLen u.length = true then _ else none) = _
  simp only [okLen_iff]
@[simp] theorem sub_dK {kvs : List (Key × D)} {d : D} : subV (.dK kvs) (.dat d) = (keyOf d).bind fun k => (lookA kvs k).map .dat := (rfl)
@[simp] theorem in_dK {kvs : List (Key × D)} {i : Int} : cmpV .isin (.dat (.int i)) (.dK kvs) = some (lookA kvs (.inl i)).isSome := (rfl)
@[simp] theorem notin_dK {kvs : List (Key × D)} {i : Int} : cmpV .notin (.dat (.int i)) (.dK kvs) = some (!(lookA kvs (.inl i)).isSome) := (rfl)
@[simp] theorem putV_K {kvs : List (Key × D)} {k d : D} : putV (.dK kvs) k d = if kvs.length < 16777216 then (keyOf k).map fun k => .dK (putA kvs k d) else none := by
  show (if Nat.blt kvs.length 16777216 = true then _ else none) = _
  by_cases h : kvs.length < 16777216
  · rw [if_pos h, if_pos (Nat.blt_eq.mpr h)]
  · rw [if_neg h, if_neg (fun e => h (Nat.blt_eq.mp e))]
@[simp] theorem q_get1 {x : Nat} {k : E} : (E.get1 x k).quiet = false := (rfl)
@[simp] theorem q_get2 {x : Nat} {k d : E} : (E.get2 x k d).quiet = false := (rfl)
@[simp] theorem q_join {x : Option Str} {s : Str} {e : E} : (E.join x s e).quiet = false := (rfl)
@[simp] theorem q_call {f : Str} {es : Es} : (E.call f es).quiet = false := (rfl)
@[simp] theorem q_comp {own : List Nat} {tg : Tg} {it : It} {cs : Es} {elt : E} : (E.comp own tg it cs elt).quiet = false := (rfl)
@[simp] theorem q_slice {a : E} {lo hi : O} : (E.slice a lo hi).quiet = false := (rfl)
end

theorem nx {call : Str → List Ev.Slot → FRes} {s : S} {ss : Ss} {δ δ' : Sts} (h : evS call s δ = .next δ') : evSs call (.cons s ss) δ = evSs call ss δ' := by
  rw [ss_cons, h]; rfl
theorem nx_ret {call : Str → List Ev.Slot → FRes} {s : S} {ss : Ss} {δ δ' : Sts} {r : RV} (h : evS call s δ = .ret r δ') : evSs call (.cons s ss) δ = .ret r δ' := by
  rw [ss_cons, h]; rfl
def nth : Ss → Nat → S
  | .cons s _, 0 => s
  | .cons _ ss, k + 1 => nth ss k
  | .nil, _ => .pass
/-- a comprehension whose turns give a value or none -/
theorem compS_filter {call : Str → List Ev.Slot → FRes} {own : List Nat} {tg : Tg} {it : It} {cs : Es} {elt : E} {δ δ1 : Sts} {ds : List D} {p : D → Bool} {g : D → D} {I : Sts → Prop} (hi : evI call it δ = .ok ds δ1) (hp : (plainS δ1 own && okLen ds.length) = true) (h0 : I δ1)
    (hs : ∀ d ∈ ds, ∀ δ, I δ → ∃ δ2 δ3, asgD tg d (wipeS δ own) = some δ2 ∧ evCs call cs δ2 = .ok (p d) δ3 ∧ (p d = false → I δ3) ∧ (p d = true → ∃ δ4 r δ', evE call elt δ3 = .ok r δ4 ∧ Ev.settle r δ4 = .ok (g d) δ' ∧ I δ')) : ∃ δ2, I δ2 ∧ compS call own tg it cs elt δ = .ok (.own (.lst ((ds.filter p).map g))) (backS δ1 δ2 own) := by
  have key : ∀ (ds : List D) (acc : List D) (δ : Sts), (∀ d ∈ ds, ∀ δ, I δ → ∃ δ2 δ3, asgD tg d (wipeS δ own) = some δ2 ∧ evCs call cs δ2 = .ok (p d) δ3 ∧ (p d = false → I δ3) ∧ (p d = true → ∃ δ4 r δ', evE call elt δ3 = .ok r δ4 ∧ Ev.settle r δ4 = .ok (g d) δ' ∧ I δ')) → I δ → ∃ δ', compF (stepC own tg (evCs call cs) (evE call elt)) ds acc δ = .ok (acc ++ (ds.filter p).map g) δ' ∧ I δ' := by
    intro ds
    induction ds with
    | nil => exact fun acc δ _ h => ⟨δ, by simp [compF], h⟩
    | cons d ds ih =>
      intro acc δ hs h
      obtain ⟨δ2, δ3, e0, e1, hf, ht⟩ := hs d List.mem_cons_self δ h
      cases hd : p d with
      | false =>
        obtain ⟨δ5, e5, h5⟩ := ih acc δ3 (fun d' hd => hs d' (List.mem_cons_of_mem _ hd)) (hf hd)
        refine ⟨δ5, ?_, h5⟩
        rw [List.filter_cons_of_neg (by rw [hd]; decide)]
        unfold compF stepC
        rw [e0]
        show (match ((evCs call cs δ2).bind fun b δ => if b then (evE call elt δ).bind fun r δ => (Ev.settle r δ).bind fun y δ => Res.ok (some y) δ else Res.ok none δ) with
          | .ok (some y) δ' => compF (stepC own tg (evCs call cs) (evE call elt)) ds (acc ++ [y]) δ'
          | .ok none δ' => compF (stepC own tg (evCs call cs) (evE call elt)) ds acc δ'
          | _ => .stuck) = _
        rw [e1, hd]
        exact e5
      | true =>
        obtain ⟨δ4, r, δ6, e2, e3, h1⟩ := ht hd
        obtain ⟨δ5, e5, h5⟩ := ih (acc ++ [g d]) δ6 (fun d' hd => hs d' (List.mem_cons_of_mem _ hd)) h1
        refine ⟨δ5, ?_, h5⟩
        rw [List.filter_cons_of_pos hd]
        unfold compF stepC
        rw [e0]
        show (match ((evCs call cs δ2).bind fun b δ => if b then (evE call elt δ).bind fun r δ => (Ev.settle r δ).bind fun y δ => Res.ok (some y) δ else Res.ok none δ) with
          | .ok (some y) δ' => compF (stepC own tg (evCs call cs) (evE call elt)) ds (acc ++ [y]) δ'
          | .ok none δ' => compF (stepC own tg (evCs call cs) (evE call elt)) ds acc δ'
          | _ => .stuck) = _
        rw [e1, hd]
        show (match ((evE call elt δ3).bind fun r δ => (Ev.settle r δ).bind fun y δ => Res.ok (some y) δ) with
          | .ok (some y) δ' => compF (stepC own tg (evCs call cs) (evE call elt)) ds (acc ++ [y]) δ'
          | .ok none δ' => compF (stepC own tg (evCs call cs) (evE call elt)) ds acc δ'
          | _ => .stuck) = _
        rw [e2]
        show (match ((Ev.settle r δ4).bind fun y δ => Res.ok (some y) δ) with
          | .ok (some y) δ' => compF (stepC own tg (evCs call cs) (evE call elt)) ds (acc ++ [y]) δ'
          | .ok none δ' => compF (stepC own tg (evCs call cs) (evE call elt)) ds acc δ'
          | _ => .stuck) = _
        rw [e3]
        show compF (stepC own tg (evCs call cs) (evE call elt)) ds (acc ++ [g d]) δ6 = _
        rw [e5]
        simp
  obtain ⟨δ2, e2, h2⟩ := key ds [] δ1 hs h0
  refine ⟨δ2, h2, ?_⟩
  show (evI call it δ).bind (fun ds δ => if plainS δ own && okLen ds.length then
  (compF (stepC own tg (evCs call cs) (evE call elt)) ds [] δ).bind fun ys δ' => Res.ok (RV.own (.lst ys)) (backS δ δ' own) else .stuck) = _
  rw [hi]
  show (if (plainS δ1 own && okLen ds.length) = true then _ else _) = _
  rw [if_pos hp, e2]
  rfl
@[simp] theorem backS_nil {a b : Sts} : backS a b [] = b := (rfl)
@[simp] theorem backS_cons {a b : Sts} {v : Nat} {vs : List Nat} : backS a b (v :: vs) = (backS a b vs).set v (getS a v) := (rfl)
end Wk

set_option Elab.async false
set_option linter.all false
set_option maxRecDepth 100000
set_option maxHeartbeats 1000000
/-! The plain law of k88: lines. -/
namespace Pl
open PySem Ev Core88 Wk
def Item.wide : Item → Nat
  | .box n => n
  | .gap n => n
  | _ => 0
def wideL (l : List Item) : Nat := (l.map Item.wide).sum
def hyp : Option Item → Nat
  | some (.cut n _) => n
  | _ => 0
def feeO : Option Item → Nat
  | some (.cut _ f) => f
  | _ => 0
def freeO : Option Item → Bool
  | none => true
  | some .stop => true
  | _ => false
def isStop : Item → Bool
  | .stop => true
  | _ => false
/-- the items between -/
def seg (p : List Item) (b t : Nat) : List Item := (p.take t).drop b
def lw (p : List Item) (b t : Nat) : Nat := wideL (seg p b t) + hyp p[t]?
def lk (p : List Item) (b t : Nat) (w : Int) : Int := if freeO p[t]? then 0 else w - lw p b t
def lc (p : List Item) (fee : Int) (b t : Nat) (w : Int) : Int := lk p b t w * lk p b t w + feeO p[t]? + fee
/-! ### slices -/
theorem cut_nn {α : Type} (ds : List α) (b t : Nat) : cutL ds (some (b : Int)) (some (t : Int)) = (ds.take t).drop b := by
  unfold cutL
  rw [HT.sIx_nat, HT.sIx_nat]
  apply List.ext_getElem?
  intro i
  simp only [List.getElem?_take, List.getElem?_drop]
  by_cases h : i < min t ds.length - min b ds.length
  · rw [if_pos h]
    have : min b ds.length = b := by omega
    rw [this]
    rw [if_pos (by omega)]
  · rw [if_neg h]
    by_cases h2 : b + i < t
    · rw [if_pos h2, List.getElem?_eq_none (by omega)]
    · rw [if_neg h2]
theorem cut_n0 {α : Type} (ds : List α) (b : Nat) : cutL ds (some (b : Int)) none = ds.drop b := by
  have h := cut_nn ds b ds.length
  rw [List.take_length] at h
  rw [← h]
  unfold cutL
  rw [HT.sIx_nat, HT.sIx_nat, HT.sIx_none, Nat.min_self]
@[simp] theorem slice_T {a : List D} {lo hi : Option Int} : sliceV (.dat (.tuple a)) lo hi = some (.dat (.tuple (cutL a lo hi))) := (rfl)
@[simp] theorem slice_l {a : List D} {lo hi : Option Int} : sliceV (.lst a) lo hi = some (.own (.lst (cutL a lo hi))) := (rfl)
@[simp] theorem slice_L {a : List D} {lo hi : Option Int} : sliceV (.dat (.list a)) lo hi = some (.own (.lst (cutL a lo hi))) := (rfl)
@[simp] theorem cut_par {p : List Item} {b t : Nat} : cutL (p.map Item.enc) (some (b : Int)) (some (t : Int)) = (seg p b t).map Item.enc := by
  rw [cut_nn, seg, List.map_drop, List.map_take]
@[simp] theorem slice_par {p : List Item} {lo hi : Option Int} : sliceV (.dat (par p)) lo hi = some (.dat (.tuple (cutL (p.map Item.enc) lo hi))) := (rfl)
/-! ### sums -/
theorem ints_of (ns : List Int) : intsOf (ns.map PyData.int) = some ns := by
  induction ns with
  | nil => rfl
  | cons n ns ih => show (intsOf (ns.map PyData.int)).map (n :: ·) = _; rw [ih]; rfl
theorem bi_sumI (ns : List Int) : biV .sum [.lst (ns.map PyData.int)] = some (.dat (.int ns.sum)) := by
  show ((intsOf (ns.map PyData.int)).map fun ns => RV.dat (.int ns.sum)) = _
  rw [ints_of]; rfl
/-- what of an item counts -/
def wideD : D → D
  | .tuple (_ :: d :: _) => d
  | _ => .none
def isWide : D → Bool
  | .tuple (.str x :: _) => s_box == x || s_gap == x
  | _ => false
theorem wide_sum (l : List Item) : ∃ ns : List Int, ((l.map Item.enc).filter isWide).map wideD = ns.map PyData.int ∧ ns.sum = wideL l := by
  induction l with
  | nil => exact ⟨[], rfl, rfl⟩
  | cons a l ih =>
    obtain ⟨ns, h1, h2⟩ := ih
    have hs : ∀ (n : Nat), a.wide = n → ∀ r : List D, isWide a.enc = true → wideD a.enc = .int n → ∃ ns : List Int, (((a :: l).map Item.enc).filter isWide).map wideD = ns.map PyData.int ∧ ns.sum = wideL (a :: l) := by
      intro n hn r hw hd
      refine ⟨(n : Int) :: ns, ?_, ?_⟩
      · rw [List.map_cons, List.filter_cons_of_pos hw, List.map_cons, h1, hd]; rfl
      · rw [List.sum_cons, h2]; simp [wideL, hn]
    have hn : isWide a.enc = false → a.wide = 0 → ∃ ns : List Int, (((a :: l).map Item.enc).filter isWide).map wideD = ns.map PyData.int ∧ ns.sum = wideL (a :: l) := by
      intro hw h0
      refine ⟨ns, ?_, ?_⟩
      · rw [List.map_cons, List.filter_cons_of_neg (by rw [hw]; decide), h1]
      · rw [h2]; simp [wideL, h0]
    cases a with
    | box n => exact hs n rfl [] rfl rfl
    | gap n => exact hs n rfl [] rfl rfl
    | cut n f => exact hn rfl rfl
    | stop => exact hn rfl rfl
@[simp] theorem listD_parT {l : List Item} : listD (.tuple (l.map Item.enc)) = some (l.map Item.enc) := (rfl)
theorem raw_wide_ok (l : List Item) (hl : l.length ≤ 1000) (n : Nat) : evF tbl (n + 1) s_raw_5f_wide [.dat (par l)] = .ret (.dat (.int (wideL l))) [.dat (par l)] := by
  obtain ⟨δ2, ⟨s, rfl⟩, e⟩ := compS_filter (call := evF tbl n) (own := [1]) (tg := .nm 1) (it := .seq (.var 0)) (cs := .cons (.cmp .isin (.sub (.var 1) (.cst (.int 0))) (.tup (.cons (.glb s_BOX (.str s_box)) (.cons (.glb s_GAP (.str s_gap)) .nil)))) .nil) (elt := .sub (.var 1) (.cst (.int 1)))
    (δ := [.dat (par l), .emp]) (δ1 := [.dat (par l), .emp]) (ds := l.map Item.enc) (p := isWide) (g := wideD) (I := fun δ => ∃ s, δ = [.dat (par l), s]) rfl (by
      show (true && okLen (l.map Item.enc).length) = true
      rw [Bool.true_and, okLen_iff, par_len]; omega) ⟨_, rfl⟩ (by
      rintro d hd δ ⟨s, rfl⟩
      obtain ⟨a, _, rfl⟩ := List.mem_map.mp hd
      refine ⟨[.dat (par l), .dat a.enc], [.dat (par l), .dat a.enc], rfl, ?_, fun _ => ⟨_, rfl⟩, fun h => ⟨[.dat (par l), .dat a.enc], .dat (wideD a.enc), [.dat (par l), .dat a.enc], ?_, rfl, _, rfl⟩⟩
      · cases a <;> simp [Item.enc, isWide, inV_two]
      · cases a <;> first | (simp [isWide, Item.enc] at h; done) | simp [Item.enc, wideD])
  obtain ⟨ns, h1, h2⟩ := wide_sum l
  rw [h1] at e
  refine (run_of (F := f_raw_wide) (fl := .ret (.dat (.int (wideL l))) [.dat (par l), .emp]) rfl rfl (by simp [f_raw_wide]) ?_).trans rfl
  generalize evF tbl n = call at e ⊢
  simp [f_raw_wide, e, bi_sumI, h2]
end Pl

set_option Elab.async false
set_option linter.all false
set_option maxRecDepth 100000
set_option maxHeartbeats 1000000
/-! The plain law of k88: widths, lacks, costs of lines. -/
namespace Pl
open PySem Ev Core88 Wk
theorem seg_len (p : List Item) (b t : Nat) : (seg p b t).length ≤ p.length := by
  unfold seg; rw [List.length_drop, List.length_take]; omega
@[simp] theorem par_fold {l : List Item} : PyData.tuple (l.map Item.enc) = par l := (rfl)
section
variable {p : List Item} {b t : Nat} {w fee : Int}
theorem line_width_ok (hl : p.length ≤ 1000) (n : Nat) : evF tbl (n + 2) s_line_5f_width [.dat (par p), .dat (.int ((b : Int) - 1)), .dat (.int t)] = .ret (.dat (.int (lw p b t))) [.dat (par p), .dat (.int ((b : Int) - 1)), .dat (.int t)] := by
  have hw := raw_wide_ok (seg p b t) (by have := seg_len p b t; omega) n
  refine (run_of (F := f_line_width) (fl := .ret (.dat (.int (lw p b t))) [.dat (par p), .dat (.int ((b : Int) - 1)), .dat (.int t), .dat (.int (hyp p[t]?))]) rfl rfl (by simp [f_line_width]) ?_).trans rfl
  generalize evF tbl (n + 1) = call at hw ⊢
  by_cases h : t < p.length
  · obtain ⟨a, ha⟩ : ∃ a, p[t]? = some a := ⟨p[t], List.getElem?_eq_getElem h⟩
    have h1 : (t : Int) < p.length := by omega
    cases a <;> simp [f_line_width, hw, ha, h1, Item.enc, lw, hyp]
  · have h1 : ¬((t : Int) < p.length) := by omega
    have ha : p[t]? = none := List.getElem?_eq_none (by omega)
    simp [f_line_width, hw, ha, h1, lw, hyp]
theorem raw_fee_ok (n : Nat) : evF tbl (n + 1) s_raw_5f_fee [.dat (par p), .dat (.int t)] = .ret (.dat (.int (feeO p[t]?))) [.dat (par p), .dat (.int t)] := by
  by_cases h : t < p.length
  · obtain ⟨a, ha⟩ : ∃ a, p[t]? = some a := ⟨p[t], List.getElem?_eq_getElem h⟩
    have h1 : (t : Int) < p.length := by omega
    refine (run_of (F := f_raw_fee) (fl := .ret (.dat (.int (feeO p[t]?))) [.dat (par p), .dat (.int t), .dat (.bool (match a with | .cut _ _ => true | _ => false))]) rfl rfl (by simp [f_raw_fee]) ?_).trans rfl
    generalize evF tbl n = call
    cases a <;> simp [f_raw_fee, ha, h1, Item.enc, feeO]
  · have h1 : ¬((t : Int) < p.length) := by omega
    have ha : p[t]? = none := List.getElem?_eq_none (by omega)
    refine (run_of (F := f_raw_fee) (fl := .ret (.dat (.int (feeO p[t]?))) [.dat (par p), .dat (.int t), .dat (.bool false)]) rfl rfl (by simp [f_raw_fee]) ?_).trans rfl
    generalize evF tbl n = call
    simp [f_raw_fee, ha, h1, feeO]
theorem free_end_ok (ht : t ≤ p.length) (n : Nat) : evF tbl (n + 1) s_is_5f_free_5f_end [.dat (par p), .dat (.int t)] = .ret (.dat (.bool (freeO p[t]?))) [.dat (par p), .dat (.int t)] := by
  refine (run_of (F := f_is_free_end) (fl := .ret (.dat (.bool (freeO p[t]?))) [.dat (par p), .dat (.int t)]) rfl rfl (by simp [f_is_free_end]) ?_).trans rfl
  generalize evF tbl n = call
  by_cases h : t < p.length
  · obtain ⟨a, ha⟩ : ∃ a, p[t]? = some a := ⟨p[t], List.getElem?_eq_getElem h⟩
    have h1 : ¬((t : Int) = p.length) := by omega
    cases a <;> simp [f_is_free_end, ha, h1, Item.enc, freeO]
  · have h1 : (t : Int) = p.length := by omega
    have ha : p[t]? = none := List.getElem?_eq_none (by omega)
    simp [f_is_free_end, ha, h1, freeO]
def stopD (d : D) : D := match d with
  | .tuple (.str x :: _) => .bool (x == s_stop)
  | _ => .none
theorem bi_any_map (f : Item → Bool) (l : List Item) (g : D → D) (hg : ∀ a ∈ l, g a.enc = .bool (f a)) : biV .any [.lst ((l.map Item.enc).map g)] = some (.dat (.bool (l.any f))) := by
  have h : ∀ l : List Item, (∀ a ∈ l, g a.enc = .bool (f a)) → boolsOf ((l.map Item.enc).map g) = some (l.map f) := by
    intro l hg
    induction l with
    | nil => rfl
    | cons a l ih =>
      rw [List.map_cons, List.map_cons, hg a List.mem_cons_self]
      show (boolsOf ((l.map Item.enc).map g)).map (f a :: ·) = _
      rw [ih fun x hx => hg x (List.mem_cons_of_mem _ hx)]; rfl
  show ((boolsOf ((l.map Item.enc).map g)).map fun bs => RV.dat (.bool (bs.any id))) = _
  rw [h l hg]
  simp [List.any_map]
theorem has_stop_ok (hl : p.length ≤ 1000) (n : Nat) : evF tbl (n + 1) s_has_5f_stop [.dat (par p), .dat (.int ((b : Int) - 1)), .dat (.int t)] = .ret (.dat (.bool ((seg p b t).any isStop))) [.dat (par p), .dat (.int ((b : Int) - 1)), .dat (.int t)] := by
  have hsl := seg_len p b t
  obtain ⟨δ2, ⟨s, rfl⟩, e⟩ := compS_map (call := evF tbl n) (own := [3]) (tg := .nm 3) (it := .seq (.slice (.var 0) (.some (.bin .add (.var 1) (.cst (.int 1)))) (.some (.var 2)))) (elt := .cmp .eq (.sub (.var 3) (.cst (.int 0))) (.glb s_STOP (.str s_stop)))
    (δ := [.dat (par p), .dat (.int ((b : Int) - 1)), .dat (.int t), .emp]) (δ1 := [.dat (par p), .dat (.int ((b : Int) - 1)), .dat (.int t), .emp]) (ds := (seg p b t).map Item.enc) (g := stopD) (I := fun δ => ∃ s, δ = [.dat (par p), .dat (.int ((b : Int) - 1)), .dat (.int t), s]) (by simp) (by
      show (true && okLen ((seg p b t).map Item.enc).length) = true
      rw [Bool.true_and, okLen_iff, par_len]; omega) ⟨_, rfl⟩ (by
      rintro d hd δ ⟨s, rfl⟩
      obtain ⟨a, _, rfl⟩ := List.mem_map.mp hd
      refine ⟨[.dat (par p), .dat (.int ((b : Int) - 1)), .dat (.int t), .dat a.enc], [.dat (par p), .dat (.int ((b : Int) - 1)), .dat (.int t), .dat a.enc], .dat (stopD a.enc), [.dat (par p), .dat (.int ((b : Int) - 1)), .dat (.int t), .dat a.enc], rfl, ?_, rfl, _, rfl⟩
      cases a <;> simp [Item.enc, stopD])
  have hb := bi_any_map isStop (seg p b t) stopD (fun a _ => by cases a <;> simp [Item.enc, stopD, isStop])
  refine (run_of (F := f_has_stop) (fl := .ret (.dat (.bool ((seg p b t).any isStop))) [.dat (par p), .dat (.int ((b : Int) - 1)), .dat (.int t), .emp]) rfl rfl (by simp [f_has_stop]) ?_).trans rfl
  generalize evF tbl n = call at e ⊢
  rw [List.map_map] at e hb
  simp [f_has_stop, e, hb]
theorem line_lack_ok (hl : p.length ≤ 1000) (ht : t ≤ p.length) (n : Nat) : evF tbl (n + 3) s_line_5f_lack [.dat (par p), .dat (.int ((b : Int) - 1)), .dat (.int t), .dat (.int w)] = .ret (.dat (.int (lk p b t w))) [.dat (par p), .dat (.int ((b : Int) - 1)), .dat (.int t), .dat (.int w)] := by
  have hw := line_width_ok (p := p) (b := b) (t := t) hl n
  have hf := free_end_ok ht (n + 1)
  refine (run_of (F := f_line_lack) (fl := .ret (.dat (.int (lk p b t w))) [.dat (par p), .dat (.int ((b : Int) - 1)), .dat (.int t), .dat (.int w)]) rfl rfl (by simp [f_line_lack]) ?_).trans rfl
  generalize evF tbl (n + 2) = call at hw hf ⊢
  cases h : freeO p[t]? <;> simp [f_line_lack, hw, hf, h, lk]
/-- how wide a lack may be -/
theorem lk_small (hl : p.length ≤ 1000) (hok : ∀ a ∈ p, a.ok) (hw0 : 0 ≤ w) (hw1 : w ≤ 1000000) : -1100000 ≤ lk p b t w ∧ lk p b t w ≤ 1100000 := by
  have hs : wideL (seg p b t) ≤ (seg p b t).length * 1000 := by
    have hh : ∀ l : List Item, (∀ a ∈ l, a.ok) → wideL l ≤ l.length * 1000 := by
      intro l hl
      induction l with
      | nil => simp [wideL]
      | cons a l ih =>
        have h1 := ih fun x hx => hl x (List.mem_cons_of_mem _ hx)
        have h2 : a.wide ≤ 1000 := by
          have := hl a List.mem_cons_self
          cases a <;> simp [Item.wide, Item.ok] at this ⊢ <;> omega
        have h3 : wideL (a :: l) = a.wide + wideL l := by simp [wideL]
        rw [h3, List.length_cons]; omega
    exact hh _ fun a ha => hok a (List.mem_of_mem_take (List.mem_of_mem_drop ha))
  have hsl := seg_len p b t
  have hh : hyp p[t]? ≤ 1000 := by
    cases e : p[t]? with
    | none => simp [hyp]
    | some a =>
      have := hok a (List.mem_of_getElem? e)
      cases a <;> simp [hyp, Item.ok] at this ⊢ <;> omega
  unfold lk lw
  split <;> omega
theorem line_cost_ok (hl : p.length ≤ 1000) (hok : ∀ a ∈ p, a.ok) (ht : t ≤ p.length) (hw0 : 0 ≤ w) (hw1 : w ≤ 1000000) (n : Nat) : evF tbl (n + 4) s_line_5f_cost [.dat (par p), .dat (.int fee), .dat (.int ((b : Int) - 1)), .dat (.int t), .dat (.int w)] = .ret (.dat (.int (lc p fee b t w))) [.dat (par p), .dat (.int fee), .dat (.int ((b : Int) - 1)), .dat (.int t), .dat (.int w)] := by
  have hw := line_lack_ok (p := p) (b := b) (t := t) (w := w) hl ht n
  have hf := raw_fee_ok (p := p) (t := t) (n + 2)
  obtain ⟨h1, h2⟩ := lk_small (p := p) (b := b) (t := t) hl hok hw0 hw1
  have e1 : -18446744073709551616 < lk p b t w := by omega
  have e2 : lk p b t w < 18446744073709551616 := by omega
  refine (run_of (F := f_line_cost) (fl := .ret (.dat (.int (lc p fee b t w))) [.dat (par p), .dat (.int fee), .dat (.int ((b : Int) - 1)), .dat (.int t), .dat (.int w), .dat (.int (lk p b t w))]) rfl rfl (by simp [f_line_cost]) ?_).trans rfl
  generalize evF tbl (n + 3) = call at hw hf ⊢
  simp [f_line_cost, hw, hf, e1, e2, lc]
end
end Pl

set_option Elab.async false
set_option linter.all false
set_option maxRecDepth 100000
set_option maxHeartbeats 1000000
/-! The plain law of k88: places, lines. -/
namespace Pl
open PySem Ev Core88 Wk
/-- the numbers of the items that are such -/
def enumF (f : Item → Bool) : Nat → List Item → List Nat
  | _, [] => []
  | k, a :: l => if f a then k :: enumF f (k + 1) l else enumF f (k + 1) l
theorem enumF_mem {f : Item → Bool} : ∀ {l : List Item} {k i : Nat}, i ∈ enumF f k l ↔ k ≤ i ∧ ∃ a, l[i - k]? = some a ∧ f a = true
  | [], k, i => by simp [enumF]
  | a :: l, k, i => by
    have ih := enumF_mem (f := f) (l := l) (k := k + 1) (i := i)
    have key : (k + 1 ≤ i ∧ ∃ x, l[i - (k + 1)]? = some x ∧ f x = true) ↔ (k < i ∧ ∃ x, (a :: l)[i - k]? = some x ∧ f x = true) := by
      constructor
      · rintro ⟨h1, h2⟩
        refine ⟨h1, ?_⟩
        have : i - k = (i - (k + 1)) + 1 := by omega
        rw [this, List.getElem?_cons_succ]; exact h2
      · rintro ⟨h1, h2⟩
        refine ⟨h1, ?_⟩
        have : i - k = (i - (k + 1)) + 1 := by omega
        rw [this, List.getElem?_cons_succ] at h2; exact h2
    unfold enumF
    by_cases h : f a = true
    · rw [if_pos h, List.mem_cons, ih, key]
      constructor
      · rintro (rfl | ⟨h1, h2⟩)
        · exact ⟨Nat.le_refl _, a, by simp, h⟩
        · exact ⟨by omega, h2⟩
      · rintro ⟨h1, h2⟩
        by_cases e : i = k
        · exact .inl e
        · exact .inr ⟨by omega, h2⟩
    · rw [if_neg h, ih, key]
      constructor
      · rintro ⟨h1, h2⟩
        exact ⟨by omega, h2⟩
      · rintro ⟨h1, x, h2, h3⟩
        by_cases e : i = k
        · subst e
          rw [Nat.sub_self, List.getElem?_cons_zero] at h2
          cases h2
          exact absurd h3 h
        · exact ⟨by omega, x, h2, h3⟩
theorem enumF_up {f : Item → Bool} : ∀ (l : List Item) (k : Nat), (enumF f k l).Pairwise (· < ·)
  | [], k => List.Pairwise.nil
  | a :: l, k => by
    unfold enumF
    by_cases h : f a = true
    · rw [if_pos h]
      refine List.pairwise_cons.mpr ⟨fun i hi => ?_, enumF_up l (k + 1)⟩
      have := (enumF_mem.mp hi).1
      omega
    · rw [if_neg h]; exact enumF_up l (k + 1)
theorem enumF_len {f : Item → Bool} : ∀ (l : List Item) (k : Nat), (enumF f k l).length ≤ l.length
  | [], k => Nat.le_refl _
  | a :: l, k => by
    have := enumF_len (f := f) l (k + 1)
    unfold enumF
    split <;> simp <;> omega
def nboxD (d : D) : Bool := match d with
  | .tuple [_, .tuple (.str x :: _)] => !(x == s_box)
  | _ => false
def nstopD (d : D) : Bool := match d with
  | .tuple [_, .tuple (.str x :: _)] => x == s_stop
  | _ => false
def fstD (d : D) : D := match d with
  | .tuple (x :: _) => x
  | _ => .none
def intN (i : Nat) : D := .int i
theorem enum_filter {f : Item → Bool} {q : D → Bool} (hq : ∀ (k : Nat) (a : Item), q (.tuple [.int k, a.enc]) = f a) : ∀ (l : List Item) (k : Nat), ((enumL k (l.map Item.enc)).filter q).map fstD = (enumF f k l).map intN
  | [], k => rfl
  | a :: l, k => by
    have ih := enum_filter hq l (k + 1)
    show ((PyData.tuple [.int k, a.enc] :: enumL (k + 1) (l.map Item.enc)).filter q).map fstD = _
    unfold enumF
    by_cases h : f a = true
    · rw [List.filter_cons_of_pos (by rw [hq]; exact h), List.map_cons, ih, if_pos h]; rfl
    · rw [List.filter_cons_of_neg (by rw [hq]; exact h), ih, if_neg h]
theorem enum_mem : ∀ {ds : List D} {k : Nat} {d : D}, d ∈ enumL k ds → ∃ (i : Nat) (x : D), x ∈ ds ∧ d = .tuple [.int i, x]
  | x :: ds, k, d, h => by
    rcases List.mem_cons.mp (show d ∈ PyData.tuple [.int k, x] :: enumL (k + 1) ds from h) with rfl | h
    · exact ⟨k, x, List.mem_cons_self, rfl⟩
    · obtain ⟨i, y, h1, h2⟩ := enum_mem h
      exact ⟨i, y, List.mem_cons_of_mem _ h1, h2⟩
@[simp] theorem enumL_len : ∀ (ds : List D) (k : Nat), (enumL k ds).length = ds.length
  | [], k => rfl
  | d :: ds, k => by
    show (enumL (k + 1) ds).length + 1 = _
    rw [enumL_len ds (k + 1)]; rfl
def places (p : List Item) : List Nat := enumF (fun a => !isBox a) 0 p ++ [p.length]
def stops (p : List Item) : List Nat := enumF isStop 0 p
theorem places_len (p : List Item) : (places p).length ≤ p.length + 1 := by
  have := enumF_len (f := fun a => !isBox a) p 0
  unfold places; simp; omega
theorem places_le {p : List Item} {t : Nat} (h : t ∈ places p) : t ≤ p.length := by
  unfold places at h
  rcases List.mem_append.mp h with h | h
  · obtain ⟨_, a, h2, _⟩ := enumF_mem.mp h
    have := (List.getElem?_eq_some_iff.mp h2).1
    omega
  · simp at h; omega
theorem places_up (p : List Item) : (places p).Pairwise (· < ·) := by
  unfold places
  refine List.pairwise_append.mpr ⟨enumF_up _ _, List.pairwise_singleton _ _, fun a ha b hb => ?_⟩
  simp at hb; subst hb
  obtain ⟨_, x, h2, _⟩ := enumF_mem.mp ha
  have := (List.getElem?_eq_some_iff.mp h2).1
  omega
theorem raw_places_ok (p : List Item) (hl : p.length ≤ 1000) (n : Nat) : evF tbl (n + 1) s_raw_5f_places [.dat (par p)] = .ret (.own (.lst ((places p).map intN))) [.dat (par p)] := by
  obtain ⟨δ2, ⟨s, s', rfl⟩, e⟩ := compS_filter (call := evF tbl n) (own := [1, 2]) (tg := .tup [1, 2]) (it := .enum (.var 0)) (cs := .cons (.cmp .ne (.sub (.var 2) (.cst (.int 0))) (.glb s_BOX (.str s_box))) .nil) (elt := .var 1)
    (δ := [.dat (par p), .emp, .emp]) (δ1 := [.dat (par p), .emp, .emp]) (ds := enumL 0 (p.map Item.enc)) (p := nboxD) (g := fstD) (I := fun δ => ∃ s s', δ = [.dat (par p), s, s']) rfl (by
      show (true && okLen (enumL 0 (p.map Item.enc)).length) = true
      rw [Bool.true_and, okLen_iff, enumL_len, par_len]; omega) ⟨_, _, rfl⟩ (by
      rintro d hd δ ⟨s, s', rfl⟩
      obtain ⟨i, x, hx, rfl⟩ := enum_mem hd
      obtain ⟨a, _, rfl⟩ := List.mem_map.mp hx
      refine ⟨[.dat (par p), .dat (.int i), .dat a.enc], [.dat (par p), .dat (.int i), .dat a.enc], rfl, ?_, fun _ => ⟨_, _, rfl⟩, fun h => ⟨[.dat (par p), .dat (.int i), .dat a.enc], .dat (.int i), [.dat (par p), .dat (.int i), .dat a.enc], rfl, rfl, _, _, rfl⟩⟩
      cases a <;> simp [Item.enc, nboxD])
  rw [enum_filter (f := fun a => !isBox a) (fun k a => by cases a <;> simp [nboxD, Item.enc, isBox])] at e
  have hpl := enumF_len (f := fun a => !isBox a) p 0
  refine (run_of (F := f_raw_places) (fl := .ret (.own (.lst ((places p).map intN))) [.dat (par p), .emp, .emp]) rfl rfl (by simp [f_raw_places]) ?_).trans rfl
  generalize evF tbl n = call at e ⊢
  have h1 : (enumF (fun a => !isBox a) 0 p).length + 1 ≤ 16777216 := by omega
  simp [f_raw_places, e, h1, places, intN]
theorem raw_stops_ok (p : List Item) (hl : p.length ≤ 1000) (n : Nat) : evF tbl (n + 1) s_raw_5f_stops [.dat (par p)] = .ret (.own (.lst ((stops p).map intN))) [.dat (par p)] := by
  obtain ⟨δ2, ⟨s, s', rfl⟩, e⟩ := compS_filter (call := evF tbl n) (own := [1, 2]) (tg := .tup [1, 2]) (it := .enum (.var 0)) (cs := .cons (.cmp .eq (.sub (.var 2) (.cst (.int 0))) (.glb s_STOP (.str s_stop))) .nil) (elt := .var 1)
    (δ := [.dat (par p), .emp, .emp]) (δ1 := [.dat (par p), .emp, .emp]) (ds := enumL 0 (p.map Item.enc)) (p := nstopD) (g := fstD) (I := fun δ => ∃ s s', δ = [.dat (par p), s, s']) rfl (by
      show (true && okLen (enumL 0 (p.map Item.enc)).length) = true
      rw [Bool.true_and, okLen_iff, enumL_len, par_len]; omega) ⟨_, _, rfl⟩ (by
      rintro d hd δ ⟨s, s', rfl⟩
      obtain ⟨i, x, hx, rfl⟩ := enum_mem hd
      obtain ⟨a, _, rfl⟩ := List.mem_map.mp hx
      refine ⟨[.dat (par p), .dat (.int i), .dat a.enc], [.dat (par p), .dat (.int i), .dat a.enc], rfl, ?_, fun _ => ⟨_, _, rfl⟩, fun h => ⟨[.dat (par p), .dat (.int i), .dat a.enc], .dat (.int i), [.dat (par p), .dat (.int i), .dat a.enc], rfl, rfl, _, _, rfl⟩⟩
      cases a <;> simp [Item.enc, nstopD])
  rw [enum_filter (f := isStop) (fun k a => by cases a <;> simp [nstopD, Item.enc, isStop])] at e
  refine (run_of (F := f_raw_stops) (fl := .ret (.own (.lst ((stops p).map intN))) [.dat (par p), .emp, .emp]) rfl rfl (by simp [f_raw_stops]) ?_).trans rfl
  generalize evF tbl n = call at e ⊢
  simp [f_raw_stops, e, stops]
/-! ### all lines -/
def begD (b : Nat) : D := .int ((b : Int) - 1)
def linD (p : List Item) (q : Nat × Nat) : D := .tuple [begD q.1, .int q.2, .int (lw p q.1 q.2)]
def inner (p : List Item) (b : Nat) (ts : List Nat) : List (Nat × Nat) := (ts.filter fun t => !(seg p b t).any isStop).map fun t => (b, t)
def linesFrom (p : List Item) (P : List Nat) : Nat → List Nat → List (Nat × Nat)
  | _, [] => []
  | k, b :: bs => inner p b (P.drop k) ++ linesFrom p P (k + 1) bs
def begs (P : List Nat) : List Nat := 0 :: P.map (· + 1)
def rawLines (p : List Item) : List (Nat × Nat) := linesFrom p (places p) 0 (begs (places p))
def linIn : Ss := match f_raw_lines.body with
  | .cons _ (.cons (.for _ _ (.cons (.for _ _ b) _)) _) => b
  | _ => .nil
def linOut : Ss := match f_raw_lines.body with
  | .cons _ (.cons (.for _ _ b) _) => b
  | _ => .nil
theorem inner_len (p : List Item) (b : Nat) (ts : List Nat) : (inner p b ts).length ≤ ts.length := by
  unfold inner; rw [List.length_map]; exact List.length_filter_le _ _
theorem lin_inner {p : List Item} (hl : p.length ≤ 1000) {P : List Nat} {b k : Nat} (n : Nat) : ∀ (ts : List Nat) (L : List (Nat × Nat)) (s : Ev.Slot), L.length + ts.length ≤ 2000000 →
    ∃ s', forS (evF tbl (n + 2)) (.nm 5) linIn (ts.map intN) [.dat (par p), .lst (P.map intN), .lst (L.map (linD p)), .dat (.int k), .dat (begD b), s] = .next [.dat (par p), .lst (P.map intN), .lst ((L ++ inner p b ts).map (linD p)), .dat (.int k), .dat (begD b), s']
  | [], L, s, h => ⟨s, by simp [inner]⟩
  | t :: ts, L, s, h => by
    have h : L.length + (ts.length + 1) ≤ 2000000 := h
    have hL : L.length < 16777216 := by omega
    have hs := has_stop_ok (p := p) (b := b) (t := t) hl (n + 1)
    have hw := line_width_ok (p := p) (b := b) (t := t) hl n
    have e1 : inner p b (t :: ts) = (if !(seg p b t).any isStop then [(b, t)] else []) ++ inner p b ts := by
      unfold inner
      cases hx : (seg p b t).any isStop with
      | true => rw [List.filter_cons_of_neg (by rw [hx]; decide)]; rfl
      | false => rw [List.filter_cons_of_pos (by rw [hx]; rfl)]; rfl
    by_cases hc : (seg p b t).any isStop = true
    · obtain ⟨s', ih⟩ := lin_inner hl (P := P) (b := b) (k := k) n ts L (.dat (.int t)) (by omega)
      refine ⟨s', forS_go (δ1 := [.dat (par p), .lst (P.map intN), .lst (L.map (linD p)), .dat (.int k), .dat (begD b), .dat (.int t)]) (δ2 := [.dat (par p), .lst (P.map intN), .lst (L.map (linD p)), .dat (.int k), .dat (begD b), .dat (.int t)]) rfl ?_ ?_⟩
      · generalize evF tbl (n + 2) = call at hs hw ⊢
        rw [hc] at hs
        simp [linIn, f_raw_lines, begD, hs]
      · rw [e1, hc]; simpa using ih
    · have hc : (seg p b t).any isStop = false := by simpa using hc
      obtain ⟨s', ih⟩ := lin_inner hl (P := P) (b := b) (k := k) n ts (L ++ [(b, t)]) (.dat (.int t)) (by simp; omega)
      refine ⟨s', forS_go (δ1 := [.dat (par p), .lst (P.map intN), .lst (L.map (linD p)), .dat (.int k), .dat (begD b), .dat (.int t)]) (δ2 := [.dat (par p), .lst (P.map intN), .lst ((L ++ [(b, t)]).map (linD p)), .dat (.int k), .dat (begD b), .dat (.int t)]) rfl ?_ ?_⟩
      · generalize evF tbl (n + 2) = call at hs hw ⊢
        rw [hc] at hs
        simp [linIn, f_raw_lines, begD, hs, hw, hL, linD]
      · rw [e1, hc]; simpa [List.append_assoc] using ih
theorem lin_outer {p : List Item} (hl : p.length ≤ 1000) {P : List Nat} (hP : P.length ≤ 1000) (n : Nat) : ∀ (bs : List Nat) (k : Nat) (L : List (Nat × Nat)) (s t u : Ev.Slot), L.length + bs.length * 1000 ≤ 1900000 →
    ∃ s' t' u', forS (evF tbl (n + 2)) (.tup [3, 4]) linOut (enumL k (bs.map begD)) [.dat (par p), .lst (P.map intN), .lst (L.map (linD p)), s, t, u] = .next [.dat (par p), .lst (P.map intN), .lst ((L ++ linesFrom p P k bs).map (linD p)), s', t', u']
  | [], k, L, s, t, u, h => ⟨s, t, u, by simp [linesFrom]; rfl⟩
  | b :: bs, k, L, s, t, u, h => by
    have h : L.length + (bs.length + 1) * 1000 ≤ 1900000 := h
    have hd : (P.drop k).length ≤ 1000 := by rw [List.length_drop]; omega
    obtain ⟨u1, e1⟩ := lin_inner hl (P := P) (b := b) (k := k) n (P.drop k) L u (by omega)
    have hil := inner_len p b (P.drop k)
    obtain ⟨s', t', u', ih⟩ := lin_outer hl hP n bs (k + 1) (L ++ inner p b (P.drop k)) (.dat (.int k)) (.dat (begD b)) u1 (by rw [List.length_append]; omega)
    refine ⟨s', t', u', forS_go (δ1 := [.dat (par p), .lst (P.map intN), .lst (L.map (linD p)), .dat (.int k), .dat (begD b), u]) (δ2 := [.dat (par p), .lst (P.map intN), .lst ((L ++ inner p b (P.drop k)).map (linD p)), .dat (.int k), .dat (begD b), u1]) rfl ?_ ?_⟩
    · simp only [linIn, f_raw_lines] at e1
      rw [List.map_drop] at e1
      generalize evF tbl (n + 2) = call at e1 ⊢
      simp [linOut, f_raw_lines, cut_n0, e1]
    · rw [show linesFrom p P k (b :: bs) = inner p b (P.drop k) ++ linesFrom p P (k + 1) bs from rfl, ← List.append_assoc]
      exact ih
theorem raw_lines_ok (p : List Item) (hl : p.length ≤ 100) (n : Nat) : evF tbl (n + 3) s_raw_5f_lines [.dat (par p)] = .ret (.own (.lst ((rawLines p).map (linD p)))) [.dat (par p)] := by
  have hp := raw_places_ok p (by omega) (n + 1)
  have hpl := places_len p
  obtain ⟨s', t', u', e⟩ := lin_outer (p := p) (by omega) (P := places p) (by omega) n (begs (places p)) 0 [] .emp .emp .emp (by simp [begs]; omega)
  refine (run_of (F := f_raw_lines) (fl := .ret (.loc 2) [.dat (par p), .lst ((places p).map intN), .lst ((rawLines p).map (linD p)), s', t', u']) rfl rfl (by simp [f_raw_lines]) ?_).trans rfl
  have hb : (begs (places p)).map begD = .int (-1) :: (places p).map intN := by
    simp [begs, begD, intN]
  rw [hb] at e
  simp only [linOut, f_raw_lines, List.map_nil, List.nil_append] at e
  generalize evF tbl (n + 2) = call at hp e ⊢
  have h1 : 1 + (places p).length ≤ 16777216 := by omega
  simp [f_raw_lines, hp, h1, e, rawLines]
end Pl

set_option Elab.async false
set_option linter.all false
set_option maxRecDepth 100000
set_option maxHeartbeats 1000000
/-! The plain law of k88: lines within a measure, costs ahead and behind. -/
namespace Pl
open PySem Ev Core88 Wk
/-! ### lines within a measure -/
theorem linesFrom_mem {p : List Item} {P : List Nat} : ∀ {bs : List Nat} {k : Nat}, (∀ j b, bs[j]? = some b → ∀ t ∈ P.drop (k + j), b ≤ t) → ∀ q ∈ linesFrom p P k bs, q.1 ≤ q.2 ∧ q.2 ∈ P
  | [], k, _, q, h => by cases h
  | b :: bs, k, hb, q, h => by
    rcases List.mem_append.mp (show q ∈ inner p b (P.drop k) ++ linesFrom p P (k + 1) bs from h) with h | h
    · unfold inner at h
      obtain ⟨t, ht, rfl⟩ := List.mem_map.mp h
      have ht := (List.mem_filter.mp ht).1
      exact ⟨hb 0 b rfl t ht, List.mem_of_mem_drop ht⟩
    · exact linesFrom_mem (fun j b' hj t ht => hb (j + 1) b' (by simpa using hj) t (by
        have e : k + (j + 1) = k + 1 + j := by omega
        rw [e]; exact ht)) q h
theorem drop_up : ∀ {P : List Nat} {j x : Nat}, P.Pairwise (· < ·) → P[j]? = some x → ∀ t ∈ P.drop (j + 1), x < t
  | [], j, x, _, h => by simp at h
  | y :: P, 0, x, h, hx => by
    simp at hx; subst hx
    exact fun t ht => (List.pairwise_cons.mp h).1 t (by simpa using ht)
  | y :: P, j + 1, x, h, hx => fun t ht => drop_up (List.pairwise_cons.mp h).2 (by simpa using hx) t (by simpa using ht)
theorem rawLines_mem {p : List Item} {q : Nat × Nat} (h : q ∈ rawLines p) : q.1 ≤ q.2 ∧ q.2 ∈ places p := by
  refine linesFrom_mem (fun j b hj t ht => ?_) q h
  cases j with
  | zero => simp [begs] at hj; omega
  | succ j =>
    have hj : (places p)[j]?.map (· + 1) = some b := by simpa [begs] using hj
    obtain ⟨x, hx, rfl⟩ := Option.map_eq_some_iff.mp hj
    have := drop_up (places_up p) hx t (by simpa [Nat.add_comm] using ht)
    omega
def intsQ (q : Nat × Nat) : Int × Int := ((q.1 : Int) - 1, q.2)
def within (p : List Item) (w : Int) : List (Int × Int) := sortP (((rawLines p).filter fun q => decide ((lw p q.1 q.2 : Int) ≤ w)).map intsQ)
theorem within_mem {p : List Item} {w : Int} {q : Int × Int} (h : q ∈ within p w) : ∃ b t : Nat, q = ((b : Int) - 1, (t : Int)) ∧ b ≤ t ∧ t ∈ places p ∧ (lw p b t : Int) ≤ w := by
  have h := (List.mergeSort_perm _ _).mem_iff.mp h
  obtain ⟨⟨b, t⟩, h1, rfl⟩ := List.mem_map.mp h
  obtain ⟨h2, h3⟩ := List.mem_filter.mp h1
  obtain ⟨h4, h5⟩ := rawLines_mem h2
  exact ⟨b, t, rfl, h4, h5, of_decide_eq_true h3⟩
theorem within_up (p : List Item) (w : Int) : (within p w).Pairwise fun a b => a.1 ≤ b.1 := by
  have h : (within p w).Pairwise fun a b => leP a b = true := List.pairwise_mergeSort (fun a b c h1 h2 => by simp only [leP, Bool.or_eq_true, Bool.and_eq_true, decide_eq_true_eq] at h1 h2 ⊢; omega) (fun a b => by simp only [leP, Bool.or_eq_true, Bool.and_eq_true, decide_eq_true_eq]; omega) _
  exact h.imp fun {a b} h => by
    simp only [leP, Bool.or_eq_true, Bool.and_eq_true, decide_eq_true_eq] at h
    omega
theorem linesFrom_len {p : List Item} {P : List Nat} (hP : P.length ≤ 1000) : ∀ (bs : List Nat) (k : Nat), (linesFrom p P k bs).length ≤ bs.length * 1000
  | [], k => Nat.zero_le _
  | b :: bs, k => by
    have h1 := inner_len p b (P.drop k)
    have h2 := linesFrom_len hP (p := p) bs (k + 1)
    rw [List.length_drop] at h1
    show (inner p b (P.drop k) ++ linesFrom p P (k + 1) bs).length ≤ (bs.length + 1) * 1000
    rw [List.length_append]; omega
theorem rawLines_len (p : List Item) (hl : p.length ≤ 100) : (rawLines p).length ≤ 200000 := by
  have h1 := places_len p
  have := linesFrom_len (p := p) (P := places p) (by omega) (begs (places p)) 0
  unfold rawLines
  simp [begs] at this ⊢
  omega
theorem within_len (p : List Item) (w : Int) (hl : p.length ≤ 100) : (within p w).length ≤ 200000 := by
  have := rawLines_len p hl
  unfold within sortP
  rw [List.length_mergeSort, List.length_map]
  exact Nat.le_trans (List.length_filter_le _ _) this
def leD (w : Int) (d : D) : Bool := match d with
  | .tuple [_, _, .int x] => decide (x ≤ w)
  | _ => false
def twoD (d : D) : D := match d with
  | .tuple [a, b, _] => .tuple [a, b]
  | _ => .none
theorem lines_within_ok (p : List Item) (w : Int) (hl : p.length ≤ 100) (n : Nat) : evF tbl (n + 4) s_lines_5f_within [.dat (par p), .dat (.int w)] = .ret (.own (.lst ((within p w).map pairD))) [.dat (par p), .dat (.int w)] := by
  have hr := raw_lines_ok p hl n
  have hn := rawLines_len p hl
  obtain ⟨δ2, ⟨s, s', s'', rfl⟩, e⟩ := compS_filter (call := evF tbl (n + 3)) (own := [2, 3, 4]) (tg := .tup [2, 3, 4]) (it := .seq (.call s_raw_5f_lines (.cons (.var 0) .nil))) (cs := .cons (.cmp .le (.var 4) (.var 1)) .nil) (elt := .tup (.cons (.var 2) (.cons (.var 3) .nil)))
    (δ := [.dat (par p), .dat (.int w), .emp, .emp, .emp]) (δ1 := [.dat (par p), .dat (.int w), .emp, .emp, .emp]) (ds := (rawLines p).map (linD p)) (p := leD w) (g := twoD) (I := fun δ => ∃ s s' s'', δ = [.dat (par p), .dat (.int w), s, s', s'']) (by
      generalize evF tbl (n + 3) = call at hr ⊢
      simp [hr]) (by
      show (true && okLen ((rawLines p).map (linD p)).length) = true
      rw [Bool.true_and, okLen_iff, List.length_map]; omega) ⟨_, _, _, rfl⟩ (by
      rintro d hd δ ⟨s, s', s'', rfl⟩
      obtain ⟨⟨b, t⟩, _, rfl⟩ := List.mem_map.mp hd
      refine ⟨[.dat (par p), .dat (.int w), .dat (begD b), .dat (.int t), .dat (.int (lw p b t))], [.dat (par p), .dat (.int w), .dat (begD b), .dat (.int t), .dat (.int (lw p b t))], rfl, ?_, fun _ => ⟨_, _, _, rfl⟩, fun h => ⟨[.dat (par p), .dat (.int w), .dat (begD b), .dat (.int t), .dat (.int (lw p b t))], .dat (.tuple [begD b, .int t]), [.dat (par p), .dat (.int w), .dat (begD b), .dat (.int t), .dat (.int (lw p b t))], ?_, rfl, _, _, _, rfl⟩⟩
      · generalize evF tbl (n + 3) = call
        by_cases h : (lw p b t : Int) ≤ w <;> simp [linD, leD, h]
      · generalize evF tbl (n + 3) = call
        simp)
  have he : (((rawLines p).map (linD p)).filter (leD w)).map twoD = (((rawLines p).filter fun q => decide ((lw p q.1 q.2 : Int) ≤ w)).map intsQ).map pairD := by
    rw [List.filter_map, List.map_map, List.map_map]; rfl
  rw [he] at e
  refine (run_of (F := f_lines_within) (fl := .ret (.own (.lst ((within p w).map pairD))) [.dat (par p), .dat (.int w), .emp, .emp, .emp]) rfl rfl (by simp [f_lines_within]) ?_).trans rfl
  generalize evF tbl (n + 3) = call at e ⊢
  simp [f_lines_within, e, sortV_pairs, within, -List.map_map]
/-! ### tables of intsQ -/
theorem look_mem {kvs : List (Key × D)} {k : Key} {d : D} : lookA kvs k = some d → (k, d) ∈ kvs := by
  induction kvs with
  | nil => intro h; cases h
  | cons kv kvs ih =>
    obtain ⟨k', d'⟩ := kv
    intro h
    unfold lookA at h
    split at h
    · rename_i e; cases h; subst e; exact List.mem_cons_self
    · exact List.mem_cons_of_mem _ (ih h)
theorem put_mem {kvs : List (Key × D)} {k : Key} {d : D} {kv : Key × D} (h : kv ∈ putA kvs k d) : kv = (k, d) ∨ kv ∈ kvs := by
  unfold putA at h
  split at h
  · obtain ⟨x, h1, rfl⟩ := List.mem_map.mp h
    by_cases e : x.1 = k
    · rw [if_pos e]; rw [e]; exact .inl rfl
    · rw [if_neg e]; exact .inr h1
  · rcases List.mem_append.mp h with h | h
    · exact .inr h
    · simp at h; exact .inl h
/-- a table from intsQ within bounds to intsQ -/
def IntT (N : Int) (kvs : List (Key × D)) : Prop := ∀ kv ∈ kvs, ∃ i v : Int, kv = (.inl i, .int v) ∧ -1 ≤ i ∧ i ≤ N
theorem IntT.val {N : Int} {kvs : List (Key × D)} (h : IntT N kvs) {k : Int} {d : D} (e : lookA kvs (.inl k) = some d) : ∃ v, d = .int v ∧ -1 ≤ k ∧ k ≤ N := by
  obtain ⟨i, v, e1, h1, h2⟩ := h _ (look_mem e)
  injection e1 with e1 e2
  injection e1 with e1
  subst e1 e2
  exact ⟨v, rfl, h1, h2⟩
theorem IntT.put {N : Int} {kvs : List (Key × D)} (h : IntT N kvs) {k v : Int} (h1 : -1 ≤ k) (h2 : k ≤ N) : IntT N (putA kvs (.inl k) (.int v)) := fun kv m => by
  rcases put_mem m with rfl | m
  · exact ⟨k, v, rfl, h1, h2⟩
  · exact h kv m
@[simp] theorem inV_dK {kvs : List (Key × D)} {i : Int} : inV (.dat (.int i)) (.dK kvs) = some (lookA kvs (.inl i)).isSome := (rfl)
/-! ### costs ahead -/
def aheadB : Ss := match f_costs_ahead.body with
  | .cons _ (.cons (.for _ _ b) _) => b
  | _ => .nil
theorem ahead_loop {p : List Item} {fee w : Int} (hl : p.length ≤ 100) (hok : ∀ a ∈ p, a.ok) (hw0 : 0 ≤ w) (hw1 : w ≤ 1000000) (n : Nat) : ∀ (R : List (Int × Int)) (kvs : List (Key × D)) (s t u : Ev.Slot), (∀ q ∈ R, q ∈ within p w) → IntT p.length kvs → kvs.length + R.length ≤ 1000000 →
    ∃ kvs' s' t' u', IntT p.length kvs' ∧ kvs'.length ≤ kvs.length + R.length ∧ forS (evF tbl (n + 4)) (.tup [4, 5]) aheadB (R.map pairD) [.dat (par p), .dat (.int fee), .dat (.int w), .dK kvs, s, t, u] = .next [.dat (par p), .dat (.int fee), .dat (.int w), .dK kvs', s', t', u']
  | [], kvs, s, t, u, _, hi, _ => ⟨kvs, s, t, u, hi, by simp, rfl⟩
  | q :: R, kvs, s, t, u, hq, hi, hn => by
    have hn : kvs.length + (R.length + 1) ≤ 1000000 := hn
    obtain ⟨b, o, rfl, h1, h2, h3⟩ := within_mem (hq q List.mem_cons_self)
    have ho := places_le h2
    have hc := line_cost_ok (p := p) (fee := fee) (b := b) (t := o) (w := w) (by omega) hok ho hw0 hw1 n
    have hk : kvs.length < 16777216 := by omega
    cases e1 : lookA kvs (.inl ((b : Int) - 1)) with
    | none =>
      obtain ⟨kvs', s', t', u', g1, g2, g3⟩ := ahead_loop hl hok hw0 hw1 n R kvs (.dat (.int ((b : Int) - 1))) (.dat (.int o)) u (fun q h => hq q (List.mem_cons_of_mem _ h)) hi (by omega)
      refine ⟨kvs', s', t', u', g1, by simp; omega, forS_go rfl ?_ g3⟩
      generalize evF tbl (n + 4) = call at hc ⊢
      simp [aheadB, f_costs_ahead, e1]
    | some d =>
      obtain ⟨v, rfl, _, _⟩ := hi.val e1
      have key : ∀ x : Int, (∃ y : Int, (lookA kvs (.inl (o : Int))).getD (.int (v + lc p fee b o w)) = .int y ∧ x = if v + lc p fee b o w < y then v + lc p fee b o w else y) → ∃ kvs' s' t' u', IntT p.length kvs' ∧ kvs'.length ≤ kvs.length + (R.length + 1) ∧ forS (evF tbl (n + 4)) (.tup [4, 5]) aheadB (((((b : Int) - 1, (o : Int)) : Int × Int) :: R).map pairD) [.dat (par p), .dat (.int fee), .dat (.int w), .dK kvs, s, t, u] = .next [.dat (par p), .dat (.int fee), .dat (.int w), .dK kvs', s', t', u'] := by
        rintro x ⟨y, hy, hx⟩
        obtain ⟨kvs', s', t', u', g1, g2, g3⟩ := ahead_loop hl hok hw0 hw1 n R (putA kvs (.inl (o : Int)) (.int x)) (.dat (.int ((b : Int) - 1))) (.dat (.int o)) (.dat (.int (v + lc p fee b o w))) (fun q h => hq q (List.mem_cons_of_mem _ h)) (hi.put (by omega) (by omega)) (by have := put_len kvs (.inl (o : Int)) (.int x); omega)
        have hpl := put_len kvs (.inl (o : Int)) (.int x)
        refine ⟨kvs', s', t', u', g1, by omega, forS_go rfl ?_ g3⟩
        subst hx
        generalize evF tbl (n + 4) = call at hc ⊢
        simp [aheadB, f_costs_ahead, e1, hc, hk, hy]
      cases e2 : lookA kvs (.inl (o : Int)) with
      | none => exact key _ ⟨_, by rw [e2]; rfl, rfl⟩
      | some d =>
        obtain ⟨y, rfl, _, _⟩ := hi.val e2
        exact key _ ⟨y, by rw [e2]; rfl, rfl⟩
theorem costs_ahead_ok (p : List Item) (fee w : Int) (hl : p.length ≤ 100) (hok : ∀ a ∈ p, a.ok) (hw0 : 0 ≤ w) (hw1 : w ≤ 1000000) (n : Nat) : ∃ kvs, IntT p.length kvs ∧ kvs.length ≤ 200001 ∧ evF tbl (n + 5) s_costs_5f_ahead [.dat (par p), .dat (.int fee), .dat (.int w)] = .ret (.own (.dK kvs)) [.dat (par p), .dat (.int fee), .dat (.int w)] := by
  have hw := lines_within_ok p w hl n
  have hn := within_len p w hl
  obtain ⟨kvs, s, t, u, h1, h2, h3⟩ := ahead_loop (fee := fee) hl hok hw0 hw1 n (within p w) [(.inl (-1), .int 0)] .emp .emp .emp (fun q h => h) (fun kv h => by simp at h; subst h; exact ⟨-1, 0, rfl, by omega, by omega⟩) (by simp; omega)
  refine ⟨kvs, h1, by simp at h2; omega, ?_⟩
  refine (run_of (F := f_costs_ahead) (fl := .ret (.loc 3) [.dat (par p), .dat (.int fee), .dat (.int w), .dK kvs, s, t, u]) rfl rfl (by simp [f_costs_ahead]) ?_).trans rfl
  simp only [aheadB, f_costs_ahead] at h3
  generalize evF tbl (n + 4) = call at hw h3 ⊢
  simp [f_costs_ahead, hw, h3]
end Pl

set_option Elab.async false
set_option linter.all false
set_option maxRecDepth 100000
set_option maxHeartbeats 1000000
/-! The plain law of k88: costs behind, the places come to. -/
namespace Pl
open PySem Ev Core88 Wk
/-- what a line costs, by its two places -/
def costI (p : List Item) (fee w : Int) (a b : Int) : Int := lc p fee (a + 1).toNat b.toNat w
/-- what the table of the costs behind holds, all places from c on being done -/
structure BInv (p : List Item) (fee w : Int) (kvs : List (Key × D)) (c : Int) : Prop where
  tab : IntT p.length kvs
  top : ∃ v, lookA kvs (.inl (p.length : Int)) = some (.int v)
  wit : ∀ k v : Int, lookA kvs (.inl k) = some (.int v) → k = p.length ∨ (c ≤ k ∧ ∃ t v' : Int, (k, t) ∈ within p w ∧ lookA kvs (.inl t) = some (.int v') ∧ v = costI p fee w k t + v')
def behindB : Ss := match f_costs_behind.body with
  | .cons _ (.cons (.for _ _ b) _) => b
  | _ => .nil
theorem look_put_ne {kvs : List (Key × D)} {k k' : Int} {d : D} (h : k' ≠ k) : lookA (putA kvs (.inl k) d) (.inl k') = lookA kvs (.inl k') := by
  rw [look_put, if_neg (fun e => by injection e with e; exact h e.symm)]
theorem look_put_eq {kvs : List (Key × D)} {k : Int} {d : D} : lookA (putA kvs (.inl k) d) (.inl k) = some d := by
  rw [look_put, if_pos rfl]
theorem within_lt {p : List Item} {w : Int} {q : Int × Int} (h : q ∈ within p w) : -1 ≤ q.1 ∧ q.1 < q.2 ∧ q.2 ≤ p.length := by
  obtain ⟨b, t, rfl, h1, h2, _⟩ := within_mem h
  have := places_le h2
  simp only
  omega
theorem behind_step {p : List Item} {fee w : Int} {kvs : List (Key × D)} {c a b v : Int} (hi : BInv p fee w kvs c) (hq : (a, b) ∈ within p w) (hc : a ≤ c) (hv : lookA kvs (.inl b) = some (.int v)) {x : Int}
    (hx : x = v + costI p fee w a b ∨ lookA kvs (.inl a) = some (.int x)) : BInv p fee w (putA kvs (.inl a) (.int x)) a := by
  have hlt := within_lt hq
  simp only at hlt
  obtain ⟨v0, h0⟩ := hi.top
  refine ⟨hi.tab.put hlt.1 (by omega), ⟨v0, by rw [look_put_ne (by omega)]; exact h0⟩, fun k y hk => ?_⟩
  by_cases e : k = a
  · subst e
    rw [look_put_eq] at hk
    injection hk with hk
    injection hk with hk
    subst hk
    right
    refine ⟨by omega, ?_⟩
    rcases hx with rfl | hx
    · exact ⟨b, v, hq, by rw [look_put_ne (by omega)]; exact hv, by omega⟩
    · rcases hi.wit k _ hx with h | ⟨h1, t, v', h2, h3, h4⟩
      · omega
      · have := within_lt h2
        simp only at this
        exact ⟨t, v', h2, by rw [look_put_ne (by omega)]; exact h3, h4⟩
  · rw [look_put_ne e] at hk
    rcases hi.wit k y hk with h | ⟨h1, t, v', h2, h3, h4⟩
    · exact .inl h
    · have := within_lt h2
      simp only at this
      exact .inr ⟨by omega, t, v', h2, by rw [look_put_ne (by omega)]; exact h3, h4⟩
theorem BInv.down {p : List Item} {fee w : Int} {kvs : List (Key × D)} {c c' : Int} (hi : BInv p fee w kvs c) (h : c' ≤ c) : BInv p fee w kvs c' :=
  ⟨hi.tab, hi.top, fun k v hk => (hi.wit k v hk).imp id fun ⟨h1, h2⟩ => ⟨by omega, h2⟩⟩
theorem behind_loop {p : List Item} {fee w : Int} (hl : p.length ≤ 100) (hok : ∀ a ∈ p, a.ok) (hw0 : 0 ≤ w) (hw1 : w ≤ 1000000) (n : Nat) : ∀ (R : List (Int × Int)) (kvs : List (Key × D)) (c : Int) (s t u : Ev.Slot), (∀ q ∈ R, q ∈ within p w ∧ q.1 ≤ c) → R.Pairwise (fun a b => b.1 ≤ a.1) → BInv p fee w kvs c → kvs.length + R.length ≤ 1000000 →
    ∃ kvs' c' s' t' u', BInv p fee w kvs' c' ∧ kvs'.length ≤ kvs.length + R.length ∧ forS (evF tbl (n + 4)) (.tup [4, 5]) behindB (R.map pairD) [.dat (par p), .dat (.int fee), .dat (.int w), .dK kvs, s, t, u] = .next [.dat (par p), .dat (.int fee), .dat (.int w), .dK kvs', s', t', u']
  | [], kvs, c, s, t, u, _, _, hi, _ => ⟨kvs, c, s, t, u, hi, by simp, rfl⟩
  | q :: R, kvs, c, s, t, u, hq, hp, hi, hn => by
    have hn : kvs.length + (R.length + 1) ≤ 1000000 := hn
    obtain ⟨hq1, hq2⟩ := hq q List.mem_cons_self
    obtain ⟨hp1, hp2⟩ := List.pairwise_cons.mp hp
    have hm := hq1
    obtain ⟨b, o, rfl, h1, h2, h3⟩ := within_mem hq1
    have ho := places_le h2
    have hc := line_cost_ok (p := p) (fee := fee) (b := b) (t := o) (w := w) (by omega) hok ho hw0 hw1 n
    have hce : costI p fee w ((b : Int) - 1) o = lc p fee b o w := by
      unfold costI
      have e1 : ((b : Int) - 1 + 1).toNat = b := by omega
      rw [e1]; rfl
    have hk : kvs.length < 16777216 := by omega
    have hR : ∀ q' ∈ R, q' ∈ within p w ∧ q'.1 ≤ (b : Int) - 1 := fun q' h => ⟨(hq q' (List.mem_cons_of_mem _ h)).1, hp1 q' h⟩
    cases e1 : lookA kvs (.inl (o : Int)) with
    | none =>
      obtain ⟨kvs', c', s', t', u', g1, g2, g3⟩ := behind_loop hl hok hw0 hw1 n R kvs _ (.dat (.int ((b : Int) - 1))) (.dat (.int o)) u hR hp2 (hi.down hq2) (by omega)
      refine ⟨kvs', c', s', t', u', g1, by simp; omega, forS_go rfl ?_ g3⟩
      generalize evF tbl (n + 4) = call at hc ⊢
      simp [behindB, f_costs_behind, e1]
    | some d =>
      obtain ⟨v, rfl, _, _⟩ := hi.tab.val e1
      have key : ∀ x y : Int, (lookA kvs (.inl ((b : Int) - 1))).getD (.int (v + lc p fee b o w)) = .int y → x = (if v + lc p fee b o w < y then v + lc p fee b o w else y) → (x = v + lc p fee b o w ∨ lookA kvs (.inl ((b : Int) - 1)) = some (.int x)) →
          ∃ kvs' c' s' t' u', BInv p fee w kvs' c' ∧ kvs'.length ≤ kvs.length + (R.length + 1) ∧ forS (evF tbl (n + 4)) (.tup [4, 5]) behindB (((((b : Int) - 1, (o : Int)) : Int × Int) :: R).map pairD) [.dat (par p), .dat (.int fee), .dat (.int w), .dK kvs, s, t, u] = .next [.dat (par p), .dat (.int fee), .dat (.int w), .dK kvs', s', t', u'] := by
        intro x y hy hx hxx
        have hpl := put_len kvs (.inl ((b : Int) - 1)) (.int x)
        obtain ⟨kvs', c', s', t', u', g1, g2, g3⟩ := behind_loop hl hok hw0 hw1 n R (putA kvs (.inl ((b : Int) - 1)) (.int x)) _ (.dat (.int ((b : Int) - 1))) (.dat (.int o)) (.dat (.int (v + lc p fee b o w))) hR hp2 (behind_step hi hm hq2 e1 (by rw [hce]; exact hxx)) (by omega)
        refine ⟨kvs', c', s', t', u', g1, by omega, forS_go rfl ?_ g3⟩
        subst hx
        generalize evF tbl (n + 4) = call at hc ⊢
        simp [behindB, f_costs_behind, e1, hc, hk, hy]
      cases e2 : lookA kvs (.inl ((b : Int) - 1)) with
      | none => exact key _ (v + lc p fee b o w) (by rw [e2]; rfl) rfl (.inl (by split <;> rfl))
      | some d =>
        obtain ⟨y, rfl, _, _⟩ := hi.tab.val e2
        refine key _ y (by rw [e2]; rfl) rfl ?_
        by_cases h : v + lc p fee b o w < y
        · rw [if_pos h]; exact .inl rfl
        · rw [if_neg h]; exact .inr e2
/-- the table of the costs behind -/
def Behind (p : List Item) (fee w : Int) (kvs : List (Key × D)) : Prop := BInv p fee w kvs (-1) ∧ kvs.length ≤ 200001
theorem BInv.at {p : List Item} {fee w : Int} {kvs : List (Key × D)} {c : Int} (hi : BInv p fee w kvs c) : BInv p fee w kvs (-1) :=
  ⟨hi.tab, hi.top, fun k v hk => (hi.wit k v hk).imp id fun ⟨h1, h2⟩ => ⟨(hi.tab.val hk).choose_spec.2.1, h2⟩⟩
theorem costs_behind_ok (p : List Item) (fee w : Int) (hl : p.length ≤ 100) (hok : ∀ a ∈ p, a.ok) (hw0 : 0 ≤ w) (hw1 : w ≤ 1000000) (n : Nat) : ∃ kvs, Behind p fee w kvs ∧ evF tbl (n + 5) s_costs_5f_behind [.dat (par p), .dat (.int fee), .dat (.int w)] = .ret (.own (.dK kvs)) [.dat (par p), .dat (.int fee), .dat (.int w)] := by
  have hw := lines_within_ok p w hl n
  have hn := within_len p w hl
  have hup := within_up p w
  obtain ⟨kvs, c, s, t, u, h1, h2, h3⟩ := behind_loop (fee := fee) hl hok hw0 hw1 n (within p w).reverse [(.inl (p.length : Int), .int 0)] (p.length : Int) .emp .emp .emp (fun q h => by
    have h := List.mem_reverse.mp h
    have := within_lt h
    exact ⟨h, by omega⟩) (List.pairwise_reverse.mpr hup) ⟨fun kv h => by simp at h; subst h; exact ⟨_, 0, rfl, by omega, by omega⟩, ⟨0, by simp [lookA]⟩, fun k v hk => by
      left
      unfold lookA at hk
      split at hk
      · rename_i e; injection e with e; exact e.symm
      · cases hk⟩ (by simp; omega)
  refine ⟨kvs, ⟨h1.at, by simp at h2; omega⟩, ?_⟩
  refine (run_of (F := f_costs_behind) (fl := .ret (.loc 3) [.dat (par p), .dat (.int fee), .dat (.int w), .dK kvs, s, t, u]) rfl rfl (by simp [f_costs_behind]) ?_).trans rfl
  simp only [behindB, f_costs_behind] at h3
  rw [List.map_reverse] at h3
  generalize evF tbl (n + 4) = call at hw h3 ⊢
  simp [f_costs_behind, hw, h3]
/-! ### the places come to -/
def geD (d : D) : Bool := match d with
  | .int i => decide (0 ≤ i)
  | _ => false
theorem keys_ints {N : Int} : ∀ {kvs : List (Key × D)}, IntT N kvs → ∃ ns : List Int, (∀ i ∈ ns, -1 ≤ i ∧ i ≤ N) ∧ (kvs.map fun kv => keyD kv.1) = ns.map PyData.int
  | [], _ => ⟨[], (fun i h => by cases h), rfl⟩
  | kv :: kvs, h => by
    obtain ⟨ns, h1, h2⟩ := keys_ints (fun x m => h x (List.mem_cons_of_mem _ m))
    obtain ⟨i, v, rfl, h3, h4⟩ := h kv List.mem_cons_self
    refine ⟨i :: ns, fun j hj => ?_, by rw [List.map_cons, h2]; rfl⟩
    rcases List.mem_cons.mp hj with rfl | hj
    · exact ⟨h3, h4⟩
    · exact h1 j hj
/-- places -/
def Small (ns : List Int) : Prop := ns.length ≤ 200001 ∧ ∀ i ∈ ns, 0 ≤ i ∧ i ≤ 100
theorem come_to_ok (p : List Item) (w : Int) (hl : p.length ≤ 100) (hok : ∀ a ∈ p, a.ok) (hw0 : 0 ≤ w) (hw1 : w ≤ 1000000) (n : Nat) : ∃ ns : List Int, Small ns ∧ evF tbl (n + 6) s_come_5f_to [.dat (par p), .dat (.int w)] = .ret (.own (.lst (ns.map PyData.int))) [.dat (par p), .dat (.int w)] := by
  obtain ⟨kvs, h1, h2, h3⟩ := costs_ahead_ok p 0 w hl hok hw0 hw1 n
  obtain ⟨ms, h4, h5⟩ := keys_ints h1
  have hml : ms.length = kvs.length := by
    have := congrArg List.length h5
    simpa using this.symm
  obtain ⟨δ2, ⟨s, rfl⟩, e⟩ := compS_filter (call := evF tbl (n + 5)) (own := [2]) (tg := .nm 2) (it := .keys (.call s_costs_5f_ahead (.cons (.var 0) (.cons (.cst (.int 0)) (.cons (.var 1) .nil))))) (cs := .cons (.cmp .ge (.var 2) (.cst (.int 0))) .nil) (elt := .var 2)
    (δ := [.dat (par p), .dat (.int w), .emp]) (δ1 := [.dat (par p), .dat (.int w), .emp]) (ds := ms.map PyData.int) (p := geD) (g := fun d => d) (I := fun δ => ∃ s, δ = [.dat (par p), .dat (.int w), s]) (by
      generalize evF tbl (n + 5) = call at h3 ⊢
      simp [h3, h5]) (by
      show (true && okLen (ms.map PyData.int).length) = true
      rw [Bool.true_and, okLen_iff, List.length_map]; omega) ⟨_, rfl⟩ (by
      rintro d hd δ ⟨s, rfl⟩
      obtain ⟨i, _, rfl⟩ := List.mem_map.mp hd
      refine ⟨[.dat (par p), .dat (.int w), .dat (.int i)], [.dat (par p), .dat (.int w), .dat (.int i)], rfl, ?_, fun _ => ⟨_, rfl⟩, fun h => ⟨[.dat (par p), .dat (.int w), .dat (.int i)], .dat (.int i), [.dat (par p), .dat (.int w), .dat (.int i)], rfl, rfl, _, rfl⟩⟩
      generalize evF tbl (n + 5) = call
      by_cases h : 0 ≤ i <;> simp [geD, h])
  have he : (((ms.map PyData.int).filter geD).map fun d => d) = (ms.filter fun i => decide (0 ≤ i)).map PyData.int := by
    rw [List.filter_map, List.map_id']; rfl
  rw [he] at e
  refine ⟨sortI (ms.filter fun i => decide (0 ≤ i)), ⟨?_, fun i hi => ?_⟩, ?_⟩
  · unfold sortI
    rw [List.length_mergeSort]
    exact Nat.le_trans (List.length_filter_le _ _) (by omega)
  · have hi := (List.mergeSort_perm _ _).mem_iff.mp hi
    obtain ⟨g1, g2⟩ := List.mem_filter.mp hi
    have := h4 i g1
    have := of_decide_eq_true g2
    omega
  · refine (run_of (F := f_come_to) (fl := .ret (.own (.lst ((sortI (ms.filter fun i => decide (0 ≤ i))).map PyData.int))) [.dat (par p), .dat (.int w), .emp]) rfl rfl (by simp [f_come_to]) ?_).trans rfl
    generalize evF tbl (n + 5) = call at e ⊢
    simp [f_come_to, e, sortV_ints]
end Pl

set_option Elab.async false
set_option linter.all false
set_option maxRecDepth 100000
set_option maxHeartbeats 1000000
/-! The plain law of k88: the least breaking. -/
namespace Pl
open PySem Ev Core88 Wk
/-- places in a row, from the begin on, each line one of some -/
inductive Path (A : List (Int × Int)) : List Int → Int → Prop
  | nil : Path A [] (-1)
  | snoc {l : List Int} {x y : Int} : Path A l x → (x, y) ∈ A → Path A (l ++ [y]) y
theorem Path.last {A : List (Int × Int)} {l : List Int} {x : Int} (h : Path A l x) : ((-1 :: l).map PyData.int).getLast? = some (.int x) := by
  cases h with
  | nil => rfl
  | snoc h1 h2 =>
    rename_i l x'
    have e : (-1 :: (l ++ [x])).map PyData.int = (-1 :: l).map PyData.int ++ [.int x] := by simp
    rw [e]
    exact List.getLast?_concat
theorem Path.len {p : List Item} {w : Int} {l : List Int} {x : Int} (h : Path (within p w) l x) : (l.length : Int) ≤ x + 1 ∧ x ≤ p.length := by
  induction h with
  | nil => simp
  | snoc h1 h2 ih =>
    have := within_lt h2
    simp only at this
    rw [List.length_append]; simp; omega
def valOf (kvs : List (Key × D)) (k : Int) : Int := match lookA kvs (.inl k) with
  | some (.int v) => v
  | _ => 0
def leastB : Ss := match f_least_breaking.body with
  | .cons _ (.cons (.while _ b) _) => b
  | _ => .nil
def leastT : E := match f_least_breaking.body with
  | .cons _ (.cons (.while c _) _) => c
  | _ => .newK
def ahD (kvs : List (Key × D)) (h : Int) (d : D) : Bool := match d with
  | .tuple [.int a, .int b] => decide (a = h) && (lookA kvs (.inl b)).isSome
  | _ => false
def sndD (d : D) : D := match d with
  | .tuple [_, b] => b
  | _ => .none
def bestD (p : List Item) (fee w : Int) (kvs : List (Key × D)) (h : Int) (d : D) : Bool := match d with
  | .int b => decide (costI p fee w h b + valOf kvs b = valOf kvs h)
  | _ => false
theorem least_step {p : List Item} {fee w : Int} (hl : p.length ≤ 100) (hok : ∀ a ∈ p, a.ok) (hw0 : 0 ≤ w) (hw1 : w ≤ 1000000) {kvs : List (Key × D)} (hB : Behind p fee w kvs) {l : List Int} {h v : Int} (hP : Path (within p w) l h) (hv : lookA kvs (.inl h) = some (.int v)) (hne : h ≠ p.length)
    {s4 s6 s7 : Ev.Slot} (h4 : s4 = .lst ((within p w).map pairD) ∨ s4 = .dat (.list ((within p w).map pairD))) (n : Nat) :
    ∃ y v' s7', (h, y) ∈ within p w ∧ lookA kvs (.inl y) = some (.int v') ∧ evSs (evF tbl (n + 4)) leastB [.dat (par p), .dat (.int fee), .dat (.int w), .dK kvs, s4, .lst ((-1 :: l).map PyData.int), s6, s7, .emp, .emp] =
      .next [.dat (par p), .dat (.int fee), .dat (.int w), .dK kvs, .dat (.list ((within p w).map pairD)), .lst ((-1 :: (l ++ [y])).map PyData.int), .dat (.int h), s7', .emp, .emp] := by
  have hlast := hP.last
  have hlen := hP.len
  have hn := within_len p w hl
  have htab := hB.1.tab
  -- those that may follow
  obtain ⟨δ2, ⟨t1, t2, rfl⟩, e1⟩ := compS_filter (call := evF tbl (n + 4)) (own := [8, 9]) (tg := .tup [8, 9]) (it := .seq (.var 4)) (cs := .cons (.and (.cmp .eq (.var 8) (.var 6)) (.cmp .isin (.var 9) (.var 3))) .nil) (elt := .var 9)
    (δ := [.dat (par p), .dat (.int fee), .dat (.int w), .dK kvs, s4, .lst ((-1 :: l).map PyData.int), .dat (.int h), s7, .emp, .emp])
    (δ1 := [.dat (par p), .dat (.int fee), .dat (.int w), .dK kvs, .dat (.list ((within p w).map pairD)), .lst ((-1 :: l).map PyData.int), .dat (.int h), s7, .emp, .emp])
    (ds := (within p w).map pairD) (p := ahD kvs h) (g := sndD) (I := fun δ => ∃ t1 t2, δ = [.dat (par p), .dat (.int fee), .dat (.int w), .dK kvs, .dat (.list ((within p w).map pairD)), .lst ((-1 :: l).map PyData.int), .dat (.int h), s7, t1, t2]) (by
      rcases h4 with rfl | rfl <;> rfl) (by
      show (true && okLen ((within p w).map pairD).length) = true
      rw [Bool.true_and, okLen_iff, List.length_map]; omega) ⟨_, _, rfl⟩ (by
      rintro d hd δ ⟨t1, t2, rfl⟩
      obtain ⟨⟨a, b⟩, _, rfl⟩ := List.mem_map.mp hd
      refine ⟨[.dat (par p), .dat (.int fee), .dat (.int w), .dK kvs, .dat (.list ((within p w).map pairD)), .lst ((-1 :: l).map PyData.int), .dat (.int h), s7, .dat (.int a), .dat (.int b)], [.dat (par p), .dat (.int fee), .dat (.int w), .dK kvs, .dat (.list ((within p w).map pairD)), .lst ((-1 :: l).map PyData.int), .dat (.int h), s7, .dat (.int a), .dat (.int b)], rfl, ?_, fun _ => ⟨_, _, rfl⟩, fun _ => ⟨_, .dat (.int b), _, rfl, rfl, _, _, rfl⟩⟩
      generalize evF tbl (n + 4) = call
      generalize (within p w).map pairD = WP
      generalize (-1 :: l).map PyData.int = LP
      by_cases h1 : a = h
      · subst h1
        cases h2 : lookA kvs (.inl b) <;> simp [pairD, ahD, h2]
      · simp [pairD, ahD, h1])
  have hs : (((within p w).map pairD).filter (ahD kvs h)).map sndD = (((within p w).filter fun q => decide (q.1 = h) && (lookA kvs (.inl q.2)).isSome).map (·.2)).map PyData.int := by
    rw [List.filter_map, List.map_map, List.map_map]; rfl
  rw [hs] at e1
  generalize hS : ((within p w).filter fun q => decide (q.1 = h) && (lookA kvs (.inl q.2)).isSome).map (·.2) = S at e1
  have hSm : ∀ o ∈ S, (h, o) ∈ within p w ∧ ∃ v', lookA kvs (.inl o) = some (.int v') := by
    intro o ho
    rw [← hS] at ho
    obtain ⟨⟨a, b⟩, h1, rfl⟩ := List.mem_map.mp ho
    obtain ⟨h2, h3⟩ := List.mem_filter.mp h1
    rw [Bool.and_eq_true] at h3
    obtain ⟨h3, h5⟩ := h3
    have h3 := of_decide_eq_true h3
    simp only at h3
    subst h3
    obtain ⟨d, hd⟩ := Option.isSome_iff_exists.mp h5
    obtain ⟨v', rfl, _, _⟩ := htab.val hd
    exact ⟨h2, v', hd⟩
  have hSl : S.length ≤ 200000 := by
    rw [← hS, List.length_map]
    exact Nat.le_trans (List.length_filter_le _ _) hn
  -- the best of them
  obtain ⟨δ3, ⟨t3, rfl⟩, e2⟩ := compS_filter (call := evF tbl (n + 4)) (own := [9]) (tg := .nm 9) (it := .seq (.var 7)) (cs := .cons (.cmp .eq (.bin .add (.call s_line_5f_cost (.cons (.var 0) (.cons (.var 1) (.cons (.var 6) (.cons (.var 9) (.cons (.var 2) .nil)))))) (.sub (.var 3) (.var 9))) (.sub (.var 3) (.var 6))) .nil) (elt := .var 9)
    (δ := [.dat (par p), .dat (.int fee), .dat (.int w), .dK kvs, .dat (.list ((within p w).map pairD)), .lst ((-1 :: l).map PyData.int), .dat (.int h), .lst (S.map PyData.int), .emp, .emp])
    (δ1 := [.dat (par p), .dat (.int fee), .dat (.int w), .dK kvs, .dat (.list ((within p w).map pairD)), .lst ((-1 :: l).map PyData.int), .dat (.int h), .dat (.list (S.map PyData.int)), .emp, .emp])
    (ds := S.map PyData.int) (p := bestD p fee w kvs h) (g := fun d => d) (I := fun δ => ∃ t3, δ = [.dat (par p), .dat (.int fee), .dat (.int w), .dK kvs, .dat (.list ((within p w).map pairD)), .lst ((-1 :: l).map PyData.int), .dat (.int h), .dat (.list (S.map PyData.int)), .emp, t3]) rfl (by
      show (true && okLen (S.map PyData.int).length) = true
      rw [Bool.true_and, okLen_iff, List.length_map]; omega) ⟨_, rfl⟩ (by
      rintro d hd δ ⟨t3, rfl⟩
      obtain ⟨o, ho, rfl⟩ := List.mem_map.mp hd
      obtain ⟨ho1, v', ho2⟩ := hSm o ho
      refine ⟨[.dat (par p), .dat (.int fee), .dat (.int w), .dK kvs, .dat (.list ((within p w).map pairD)), .lst ((-1 :: l).map PyData.int), .dat (.int h), .dat (.list (S.map PyData.int)), .emp, .dat (.int o)], [.dat (par p), .dat (.int fee), .dat (.int w), .dK kvs, .dat (.list ((within p w).map pairD)), .lst ((-1 :: l).map PyData.int), .dat (.int h), .dat (.list (S.map PyData.int)), .emp, .dat (.int o)], rfl, ?_, fun _ => ⟨_, rfl⟩, fun _ => ⟨_, .dat (.int o), _, rfl, rfl, _, rfl⟩⟩
      obtain ⟨b, t, eq, h1, h2, h3⟩ := within_mem ho1
      injection eq with eq1 eq2
      subst eq1 eq2
      have hc := line_cost_ok (p := p) (fee := fee) (b := b) (t := t) (w := w) (by omega) hok (places_le h2) hw0 hw1 n
      have hce : costI p fee w ((b : Int) - 1) t = lc p fee b t w := by
        unfold costI
        have e1 : ((b : Int) - 1 + 1).toNat = b := by omega
        rw [e1]; rfl
      have v1 : valOf kvs ((b : Int) - 1) = v := by unfold valOf; rw [hv]
      have v2 : valOf kvs (t : Int) = v' := by unfold valOf; rw [ho2]
      generalize evF tbl (n + 4) = call at hc ⊢
      generalize (within p w).map pairD = WP
      generalize (-1 :: l).map PyData.int = LP
      generalize S.map PyData.int = SP
      by_cases hh : lc p fee b t w + v' = v <;> simp [bestD, hc, hv, ho2, hce, v1, v2, hh])
  have hb : ((S.map PyData.int).filter (bestD p fee w kvs h)).map (fun d => d) = (S.filter fun o => decide (costI p fee w h o + valOf kvs o = valOf kvs h)).map PyData.int := by
    rw [List.filter_map, List.map_id']; rfl
  rw [hb] at e2
  -- there is one
  obtain ⟨y, r, hy⟩ : ∃ y r, (S.filter fun o => decide (costI p fee w h o + valOf kvs o = valOf kvs h)) = y :: r := by
    rcases hB.1.wit h v hv with e | ⟨_, t, v', g1, g2, g3⟩
    · exact absurd e hne
    · have hmem : t ∈ S.filter fun o => decide (costI p fee w h o + valOf kvs o = valOf kvs h) := by
        refine List.mem_filter.mpr ⟨?_, ?_⟩
        · rw [← hS]
          exact List.mem_map.mpr ⟨(h, t), List.mem_filter.mpr ⟨g1, by simp [g2]⟩, rfl⟩
        · refine decide_eq_true ?_
          unfold valOf
          rw [g2, hv]
          exact g3.symm
      cases hz : S.filter fun o => decide (costI p fee w h o + valOf kvs o = valOf kvs h) with
      | nil => rw [hz] at hmem; cases hmem
      | cons y r => exact ⟨y, r, rfl⟩
  rw [hy] at e2
  have hyS : y ∈ S := by
    have : y ∈ S.filter fun o => decide (costI p fee w h o + valOf kvs o = valOf kvs h) := by rw [hy]; exact List.mem_cons_self
    exact (List.mem_filter.mp this).1
  obtain ⟨y1, v', y2⟩ := hSm y hyS
  refine ⟨y, v', .dat (.list (S.map PyData.int)), y1, y2, ?_⟩
  have hll : ((-1 :: l).map PyData.int).length < 16777216 := by simp; omega
  have happ : (-1 :: (l ++ [y])).map PyData.int = (-1 :: l).map PyData.int ++ [.int y] := by simp
  rw [happ]
  generalize evF tbl (n + 4) = call at e1 e2 ⊢
  generalize (within p w).map pairD = WP at e1 e2 h4 ⊢
  generalize (-1 :: l).map PyData.int = LP at e1 e2 hlast hll ⊢
  generalize S.map PyData.int = SP at e1 e2 ⊢
  simp at e1 e2
  simp [leastB, f_least_breaking, hlast, e1, e2, hll]
end Pl

set_option Elab.async false
set_option linter.all false
set_option maxRecDepth 100000
set_option maxHeartbeats 1000000
/-! The plain law of k88: the best. -/
namespace Pl
open PySem Ev Core88 Wk
theorem least_loop {p : List Item} {fee w : Int} (hl : p.length ≤ 100) (hok : ∀ a ∈ p, a.ok) (hw0 : 0 ≤ w) (hw1 : w ≤ 1000000) {kvs : List (Key × D)} (hB : Behind p fee w kvs) (n : Nat) : ∀ (m F : Nat) (l : List Int) (h v : Int) (s4 s6 s7 : Ev.Slot), Path (within p w) l h → lookA kvs (.inl h) = some (.int v) →
    (s4 = .lst ((within p w).map pairD) ∨ s4 = .dat (.list ((within p w).map pairD))) → ((p.length : Int) - h).toNat ≤ m → m < F →
    ∃ l' s4' s6' s7', Path (within p w) l' p.length ∧ whS (evF tbl (n + 4)) leastT leastB F [.dat (par p), .dat (.int fee), .dat (.int w), .dK kvs, s4, .lst ((-1 :: l).map PyData.int), s6, s7, .emp, .emp] =
      .next [.dat (par p), .dat (.int fee), .dat (.int w), .dK kvs, s4', .lst ((-1 :: l').map PyData.int), s6', s7', .emp, .emp]
  | m, 0, _, _, _, _, _, _, _, _, _, _, hF => absurd hF (Nat.not_lt_zero _)
  | m, F + 1, l, h, v, s4, s6, s7, hP, hv, h4, hm, hF => by
    have hlast := hP.last
    have hlen := hP.len
    have ht : evT (evF tbl (n + 4)) leastT [.dat (par p), .dat (.int fee), .dat (.int w), .dK kvs, s4, .lst ((-1 :: l).map PyData.int), s6, s7, .emp, .emp] = .ok (!decide (h = (p.length : Int))) [.dat (par p), .dat (.int fee), .dat (.int w), .dK kvs, s4, .lst ((-1 :: l).map PyData.int), s6, s7, .emp, .emp] := by
      generalize evF tbl (n + 4) = call
      generalize (-1 :: l).map PyData.int = LP at hlast ⊢
      simp [leastT, f_least_breaking, hlast]
    by_cases he : h = p.length
    · subst he
      rw [decide_eq_true rfl] at ht
      exact ⟨l, s4, s6, s7, hP, whS_f ht⟩
    · rw [decide_eq_false he] at ht
      obtain ⟨y, v', s7', g1, g2, g3⟩ := least_step hl hok hw0 hw1 hB hP hv he h4 (s6 := s6) (s7 := s7) n
      have hlt := within_lt g1
      simp only at hlt
      cases m with
      | zero => omega
      | succ m =>
        obtain ⟨l', s4', s6', s7'', k1, k2⟩ := least_loop hl hok hw0 hw1 hB n m F (l ++ [y]) y v' (.dat (.list ((within p w).map pairD))) (.dat (.int h)) s7' (.snoc hP g1) g2 (.inr rfl) (by omega) (by omega)
        exact ⟨l', s4', s6', s7'', k1, whS_t ht g3 k2⟩
theorem least_ok {p : List Item} {fee w : Int} (hl : p.length ≤ 100) (hok : ∀ a ∈ p, a.ok) (hw0 : 0 ≤ w) (hw1 : w ≤ 1000000) {kvs : List (Key × D)} (hB : Behind p fee w kvs) {v : Int} (hv : lookA kvs (.inl (-1)) = some (.int v)) (n : Nat) :
    ∃ l, Path (within p w) l p.length ∧ evF tbl (n + 5) s_least_5f_breaking [.dat (par p), .dat (.int fee), .dat (.int w), .dK kvs] = .ret (.dat (.tuple (l.map PyData.int))) [.dat (par p), .dat (.int fee), .dat (.int w), .dK kvs] := by
  have hw := lines_within_ok p w hl n
  obtain ⟨l, s4, s6, s7, h1, h2⟩ := least_loop hl hok hw0 hw1 hB n 200 1000000000 [] (-1) v (.lst ((within p w).map pairD)) .emp .emp .nil hv (.inl rfl) (by omega) (by omega)
  refine ⟨l, h1, ?_⟩
  refine (run_of (F := f_least_breaking) (fl := .ret (.dat (.tuple (l.map PyData.int))) [.dat (par p), .dat (.int fee), .dat (.int w), .dK kvs, s4, .lst ((-1 :: l).map PyData.int), s6, s7, .emp, .emp]) rfl rfl (by simp [f_least_breaking]) ?_).trans rfl
  have hcut : cutL ((-1 :: l).map PyData.int) (some 1) none = l.map PyData.int := by
    rw [cut1]; rfl
  have hf : fuel = 1000000000 := rfl
  simp only [leastB, leastT, f_least_breaking] at h2
  rw [← hf] at h2
  have h0 : ([-1] : List Int).map PyData.int = [.int (-1)] := rfl
  rw [h0] at h2
  generalize evF tbl (n + 4) = call at hw h2 ⊢
  generalize (within p w).map pairD = WP at hw h2 ⊢
  generalize (-1 :: l).map PyData.int = LP at h2 hcut ⊢
  generalize l.map PyData.int = L2 at hcut ⊢
  simp [f_least_breaking, hw, h2, hcut]
/-- what best_told tells -/
inductive Told (p : List Item) (fee w : Int) : D → Prop
  | best {v : Int} {l : List Int} : Path (within p w) l p.length → Told p fee w (.tuple [.str s_best, .int v, .tuple (l.map PyData.int)])
  | narrow {ns : List Int} : Small ns → Told p fee w (.tuple [.str s_narrow, .tuple (ns.map PyData.int)])
theorem raw_best_ok (p : List Item) (fee w : Int) (hl : p.length ≤ 100) (hok : ∀ a ∈ p, a.ok) (hw0 : 0 ≤ w) (hw1 : w ≤ 1000000) (n : Nat) : ∃ d, Told p fee w d ∧ evF tbl (n + 7) s_raw_5f_best [.dat (par p), .dat (.int fee), .dat (.int w)] = .ret (.dat d) [.dat (par p), .dat (.int fee), .dat (.int w)] := by
  obtain ⟨kvs, hB, e1⟩ := costs_behind_ok p fee w hl hok hw0 hw1 (n + 1)
  cases e2 : lookA kvs (.inl (-1)) with
  | none =>
    obtain ⟨ns, h1, h2⟩ := come_to_ok p w hl hok hw0 hw1 n
    refine ⟨_, .narrow h1, ?_⟩
    refine (run_of (F := f_raw_best) (fl := .ret (.dat (.tuple [.str s_narrow, .tuple (ns.map PyData.int)])) [.dat (par p), .dat (.int fee), .dat (.int w), .dK kvs]) rfl rfl (by simp [f_raw_best]) ?_).trans rfl
    generalize evF tbl (n + 6) = call at e1 h2 ⊢
    simp [f_raw_best, e1, e2, h2]
  | some d =>
    obtain ⟨v, rfl, _, _⟩ := hB.1.tab.val e2
    obtain ⟨l, h1, h2⟩ := least_ok hl hok hw0 hw1 hB e2 (n + 1)
    refine ⟨_, .best (v := v) h1, ?_⟩
    refine (run_of (F := f_raw_best) (fl := .ret (.dat (.tuple [.str s_best, .int v, .tuple (l.map PyData.int)])) [.dat (par p), .dat (.int fee), .dat (.int w), .dK kvs]) rfl rfl (by simp [f_raw_best]) ?_).trans rfl
    generalize evF tbl (n + 6) = call at e1 h2 ⊢
    simp [f_raw_best, e1, e2, h2]
/-! ### what is asked -/
theorem fee_is (fee : Int) (n : Nat) : evF tbl (n + 3) s_is_5f_fee [.dat (.int fee)] = .ret (.dat (.bool (decide (0 ≤ fee) && decide (fee ≤ 1000000)))) [.dat (.int fee)] := by
  have h := is_within_int n fee 0 1000000
  refine (run_of (F := f_is_fee) (fl := .ret (.dat (.bool (decide (0 ≤ fee) && decide (fee ≤ 1000000)))) [.dat (.int fee)]) rfl rfl (by simp [f_is_fee]) ?_).trans rfl
  generalize evF tbl (n + 2) = call at h ⊢
  simp [f_is_fee, h]
theorem check_fee_ok {fee : Int} (h0 : 0 ≤ fee) (h1 : fee ≤ 1000000) (n : Nat) : evF tbl (n + 4) s_check_5f_fee [.dat (.int fee)] = .ret (.dat .none) [.dat (.int fee)] := by
  have h := fee_is fee n
  rw [decide_eq_true h0, decide_eq_true h1] at h
  refine (run_of (F := f_check_fee) (fl := .next [.dat (.int fee)]) rfl rfl (by simp [f_check_fee]) ?_).trans rfl
  generalize evF tbl (n + 3) = call at h ⊢
  simp [f_check_fee, h]
end Pl

set_option Elab.async false
set_option linter.all false
set_option maxRecDepth 100000
set_option maxHeartbeats 1000000
/-! The plain law of k88: what is asked. -/
namespace Pl
open PySem Ev Core88 Wk
def IsFee (d : D) (b : Bool) : Prop := ∀ n, evF tbl (n + 3) s_is_5f_fee [.dat d] = .ret (.dat (.bool b)) [.dat d]
def IsNum (d : D) (b : Bool) : Prop := ∀ n, evF tbl (n + 2) s_is_5f_number [.dat d] = .ret (.dat (.bool b)) [.dat d]
theorem fee_int {fee : Int} (h0 : 0 ≤ fee) (h1 : fee ≤ 1000000) : IsFee (.int fee) true := fun n => by
  have h := fee_is fee n
  rw [decide_eq_true h0, decide_eq_true h1] at h
  exact h
theorem num_int (w : Int) : IsNum (.int w) (decide (0 ≤ w)) := fun n => by
  have h := is_integer_int n w
  refine (run_of (F := f_is_number) (fl := .ret (.dat (.bool (decide (0 ≤ w)))) [.dat (.int w)]) rfl rfl (by simp [f_is_number]) ?_).trans rfl
  generalize evF tbl (n + 1) = call at h ⊢
  simp [f_is_number, h]
/-- no integer -/
def NoInt (d : D) : Prop := ∀ n, evF tbl (n + 1) s_is_5f_integer [.dat d] = .ret (.dat (.bool false)) [.dat d]
theorem noint_none : NoInt .none := fun n => by
  refine (run_of (F := f_is_integer) (fl := .ret (.dat (.bool false)) [.dat .none]) rfl rfl (by simp [f_is_integer]) ?_).trans rfl
  simp [f_is_integer]
theorem noint_bool (b : Bool) : NoInt (.bool b) := fun n => by
  refine (run_of (F := f_is_integer) (fl := .ret (.dat (.bool false)) [.dat (.bool b)]) rfl rfl (by simp [f_is_integer]) ?_).trans rfl
  simp [f_is_integer]
theorem noint_str (u : Str) : NoInt (.str u) := fun n => by
  refine (run_of (F := f_is_integer) (fl := .ret (.dat (.bool false)) [.dat (.str u)]) rfl rfl (by simp [f_is_integer]) ?_).trans rfl
  simp [f_is_integer]
theorem NoInt.within {d : D} (h : NoInt d) (a b : Int) (n : Nat) : evF tbl (n + 2) s_is_5f_within [.dat d, .dat (.int a), .dat (.int b)] = .ret (.dat (.bool false)) [.dat d, .dat (.int a), .dat (.int b)] := by
  have h := h n
  refine (run_of (F := f_is_within) (fl := .ret (.dat (.bool false)) [.dat d, .dat (.int a), .dat (.int b)]) rfl rfl (by simp [f_is_within]) ?_).trans rfl
  generalize evF tbl (n + 1) = call at h ⊢
  simp [f_is_within, h]
theorem NoInt.fee {d : D} (h : NoInt d) : IsFee d false := fun n => by
  have h := h.within 0 1000000 n
  refine (run_of (F := f_is_fee) (fl := .ret (.dat (.bool false)) [.dat d]) rfl rfl (by simp [f_is_fee]) ?_).trans rfl
  generalize evF tbl (n + 2) = call at h ⊢
  simp [f_is_fee, h]
theorem NoInt.num {d : D} (h : NoInt d) : IsNum d false := fun n => by
  have h := h n
  refine (run_of (F := f_is_number) (fl := .ret (.dat (.bool false)) [.dat d]) rfl rfl (by simp [f_is_number]) ?_).trans rfl
  generalize evF tbl (n + 1) = call at h ⊢
  simp [f_is_number, h]
theorem fee_off {fee : Int} (h : ¬(0 ≤ fee ∧ fee ≤ 1000000)) : IsFee (.int fee) false := fun n => by
  have h1 := fee_is fee n
  have : (decide (0 ≤ fee) && decide (fee ≤ 1000000)) = false := by
    rw [Bool.and_eq_false_iff, decide_eq_false_iff_not, decide_eq_false_iff_not]; omega
  rw [this] at h1
  exact h1
theorem check_fee {d : D} {b : Bool} (h : IsFee d b) (n : Nat) : evF tbl (n + 4) s_check_5f_fee [.dat d] = if b then .ret (.dat .none) [.dat d] else .exc s_NoFee [.dat d] := by
  have h := h n
  cases b with
  | true =>
    refine (run_of (F := f_check_fee) (fl := .next [.dat d]) rfl rfl (by simp [f_check_fee]) ?_).trans rfl
    generalize evF tbl (n + 3) = call at h ⊢
    simp [f_check_fee, h]
  | false =>
    refine (run_of (F := f_check_fee) (fl := .exc s_NoFee [.dat d]) rfl rfl (by simp [f_check_fee]) ?_).trans rfl
    generalize evF tbl (n + 3) = call at h ⊢
    simp [f_check_fee, h]
theorem check_meas {d : D} {b : Bool} (h : IsNum d b) (n : Nat) : evF tbl (n + 3) s_check_5f_measure [.dat d] = if b then .ret (.dat .none) [.dat d] else .exc s_NoMeasure [.dat d] := by
  have h := h n
  cases b with
  | true =>
    refine (run_of (F := f_check_measure) (fl := .next [.dat d]) rfl rfl (by simp [f_check_measure]) ?_).trans rfl
    generalize evF tbl (n + 2) = call at h ⊢
    simp [f_check_measure, h]
  | false =>
    refine (run_of (F := f_check_measure) (fl := .exc s_NoMeasure [.dat d]) rfl rfl (by simp [f_check_measure]) ?_).trans rfl
    generalize evF tbl (n + 2) = call at h ⊢
    simp [f_check_measure, h]
theorem asked_ok {d f w : D} (hd : IsPar d true) (hf : IsFee f true) (hw : IsNum w true) (n : Nat) : evF tbl (n + 6) s_check_5f_asked [.dat d, .dat f, .dat w] = .ret (.dat .none) [.dat d, .dat f, .dat w] := by
  have h1 := check_ok hd n
  have h2 := check_fee hf (n + 1)
  have h3 := check_meas hw (n + 2)
  refine (run_of (F := f_check_asked) (fl := .next [.dat d, .dat f, .dat w]) rfl rfl (by simp [f_check_asked]) ?_).trans rfl
  generalize evF tbl (n + 5) = call at h1 h2 h3 ⊢
  simp [f_check_asked, h1, h2, h3]
theorem asked_par {d f w : D} (hd : IsPar d false) (n : Nat) : evF tbl (n + 6) s_check_5f_asked [.dat d, .dat f, .dat w] = .exc s_NoParagraph [.dat d, .dat f, .dat w] := by
  have h1 := check_bad hd n
  refine (run_of (F := f_check_asked) (fl := .exc s_NoParagraph [.dat d, .dat f, .dat w]) rfl rfl (by simp [f_check_asked]) ?_).trans rfl
  generalize evF tbl (n + 5) = call at h1 ⊢
  simp [f_check_asked, h1]
theorem asked_fee {d f w : D} (hd : IsPar d true) (hf : IsFee f false) (n : Nat) : evF tbl (n + 6) s_check_5f_asked [.dat d, .dat f, .dat w] = .exc s_NoFee [.dat d, .dat f, .dat w] := by
  have h1 := check_ok hd n
  have h2 := check_fee hf (n + 1)
  refine (run_of (F := f_check_asked) (fl := .exc s_NoFee [.dat d, .dat f, .dat w]) rfl rfl (by simp [f_check_asked]) ?_).trans rfl
  generalize evF tbl (n + 5) = call at h1 h2 ⊢
  simp [f_check_asked, h1, h2]
theorem asked_meas {d f w : D} (hd : IsPar d true) (hf : IsFee f true) (hw : IsNum w false) (n : Nat) : evF tbl (n + 6) s_check_5f_asked [.dat d, .dat f, .dat w] = .exc s_NoMeasure [.dat d, .dat f, .dat w] := by
  have h1 := check_ok hd n
  have h2 := check_fee hf (n + 1)
  have h3 := check_meas hw (n + 2)
  refine (run_of (F := f_check_asked) (fl := .exc s_NoMeasure [.dat d, .dat f, .dat w]) rfl rfl (by simp [f_check_asked]) ?_).trans rfl
  generalize evF tbl (n + 5) = call at h1 h2 h3 ⊢
  simp [f_check_asked, h1, h2, h3]
theorem best_told_ok {p : List Item} {fee w : Int} {d : D} (hp : Good p) (hf : IsFee (.int fee) true) (hw : IsNum (.int w) true) {n : Nat} (h : evF tbl (n + 7) s_raw_5f_best [.dat (par p), .dat (.int fee), .dat (.int w)] = .ret (.dat d) [.dat (par p), .dat (.int fee), .dat (.int w)]) :
    evF tbl (n + 8) s_best_5f_told [.dat (par p), .dat (.int fee), .dat (.int w)] = .ret (.dat d) [.dat (par p), .dat (.int fee), .dat (.int w)] := by
  have ha := asked_ok (good_par hp) hf hw (n + 1)
  refine (run_of (F := f_best_told) (fl := .ret (.dat d) [.dat (par p), .dat (.int fee), .dat (.int w)]) rfl rfl (by simp [f_best_told]) ?_).trans rfl
  generalize evF tbl (n + 7) = call at h ha ⊢
  simp [f_best_told, h, ha]
end Pl

set_option Elab.async false
set_option linter.all false
set_option maxRecDepth 100000
set_option maxHeartbeats 1000000
/-! The plain law of k88: texts. -/
namespace Pl
open PySem Ev Core88 Wk
/-- a short text of plain signs -/
structure Txs (k : Nat) (u : Str) : Prop where
  asc : ∀ c ∈ u.cps.toList, c < 128
  len : u.length ≤ k
theorem Txs.ok {k : Nat} {u : Str} (h : Txs k u) : eqOk (.str u) = true := by
  show ((PyData.str u).canLay0 && decide ((PyData.str u).depth ≤ 64)) = true
  have h1 : (PyData.str u).canLay0 = true := by
    show PySem.PyData.strOk u = true
    unfold PySem.PyData.strOk
    rw [← Array.all_toList, List.all_eq_true]
    intro c hc
    have := h.asc c hc
    exact decide_eq_true (by omega)
  rw [h1]
  simp [PyData.depth]
theorem str_toList (u v : Str) : (u ++ v).cps.toList = u.cps.toList ++ v.cps.toList := by
  show (u.cps ++ v.cps).toList = _
  rw [Array.toList_append]
theorem Txs.app {k m : Nat} {u v : Str} (h : Txs k u) (g : Txs m v) : Txs (k + m) (u ++ v) := by
  refine ⟨fun c hc => ?_, ?_⟩
  · rw [str_toList] at hc
    rcases List.mem_append.mp hc with hc | hc
    · exact h.asc c hc
    · exact g.asc c hc
  · have := h.len
    have := g.len
    have e : (u ++ v).length = u.length + v.length := Array.size_append
    omega
theorem Txs.mono {k m : Nat} {u : Str} (h : Txs k u) (hm : k ≤ m) : Txs m u := ⟨h.asc, Nat.le_trans h.len hm⟩
theorem join_eq (s : Str) (ys : List Str) : PySem.Txt.join s ys = Str.join s ys := StrLaws.glued_eq_join s ys
theorem join_cons2 (s x y : Str) (r : List Str) : PySem.Txt.join s (x :: y :: r) = x ++ s ++ PySem.Txt.join s (y :: r) := by
  rw [join_eq, join_eq]; rfl
theorem join_one (s x : Str) : PySem.Txt.join s [x] = x := by rw [join_eq]; rfl
theorem join_nil (s : Str) : PySem.Txt.join s [] = ⟨#[]⟩ := by rw [join_eq]; rfl
theorem Txs.join {k : Nat} {s : Str} (hs : Txs 1 s) : ∀ {ys : List Str}, (∀ y ∈ ys, Txs k y) → Txs (ys.length * (k + 1)) (PySem.Txt.join s ys)
  | [], _ => by rw [join_nil]; exact ⟨(fun c h => by simp at h), by simp [Str.length]⟩
  | [x], h => by rw [join_one]; exact (h x List.mem_cons_self).mono (by simp)
  | x :: y :: r, h => by
    rw [join_cons2]
    have ih := Txs.join hs (ys := y :: r) fun z hz => h z (List.mem_cons_of_mem _ hz)
    refine (((h x List.mem_cons_self).app hs).app ih).mono ?_
    rw [List.length_cons (a := x), Nat.add_mul]; omega
theorem sum_le {k : Nat} : ∀ {ys : List Str}, (∀ y ∈ ys, Txs k y) → (ys.map (·.length)).sum ≤ ys.length * k
  | [], _ => by simp
  | y :: ys, h => by
    have h1 := (h y List.mem_cons_self).len
    have h2 := sum_le (ys := ys) fun z hz => h z (List.mem_cons_of_mem _ hz)
    rw [List.map_cons, List.sum_cons, List.length_cons, Nat.add_mul]; omega
theorem joinV_txs {k : Nat} {s : Str} {x : Ev.Slot} {ys : List Str} (hs : Txs 1 s) (hy : ∀ y ∈ ys, Txs k y) (hx : seqOf x = some (ys.map PyData.str)) (hl : ys.length * (k + 1) ≤ 16777216) : joinV s x = some (.dat (.str (PySem.Txt.join s ys))) := by
  refine joinV_ok hx ?_
  have h1 := sum_le hy
  have h2 : ys.length * s.length ≤ ys.length * 1 := Nat.mul_le_mul_left _ hs.len
  rw [Nat.mul_add] at hl
  omega
/-! ### numbers -/
theorem strI_list (n : Nat) : (strI (n : Int)).cps.toList = TL.numL n := TL.tl_num n
theorem num_txs {i : Int} (h0 : 0 ≤ i) (h1 : i < 100000000000000000000) : Txs 20 (strI i) := by
  obtain ⟨n, rfl⟩ : ∃ n : Nat, i = n := ⟨i.toNat, by omega⟩
  refine ⟨fun c hc => ?_, ?_⟩
  · rw [strI_list] at hc
    have := TL.numL_digits n c hc
    omega
  · have e : (strI (n : Int)).length = (TL.numL n).length := by
      rw [← strI_list]; simp [Str.length]
    rw [e]
    exact TL.numL_len (by decide) (by
      have : (10 : Nat) ^ 20 = 100000000000000000000 := by decide +kernel
      rw [this]; omega)
theorem num_ne {i : Int} (h0 : 0 ≤ i) : (strI i).cps.toList ≠ [] := by
  obtain ⟨n, rfl⟩ : ∃ n : Nat, i = n := ⟨i.toNat, by omega⟩
  rw [strI_list]
  exact TL.numL_ne n
theorem num_free {i : Int} (h0 : 0 ≤ i) : 32 ∉ (strI i).cps.toList := by
  obtain ⟨n, rfl⟩ : ∃ n : Nat, i = n := ⟨i.toNat, by omega⟩
  rw [strI_list]
  exact TL.numL_free (.inl (by decide))
theorem bi_strN {i : Int} (h0 : 0 ≤ i) (h1 : i < 100000000000000000000) : biV .str [.dat (.int i)] = some (.dat (.str (strI i))) := by
  have e : (2 : Nat) ^ 100 = 1267650600228229401496703205376 := by decide +kernel
  have h : i.natAbs < 2 ^ 100 := by rw [e]; omega
  exact bi_strI (Nat.lt_trans (log2_lt h (by decide)) (by decide))
theorem getS_set_self : ∀ {δ : Sts} {i : Nat} {s : Ev.Slot}, i < δ.length → getS (δ.set i s) i = s
  | _ :: δ, 0, s, _ => rfl
  | x :: δ, i + 1, s, h => getS_set_self (δ := δ) (by simpa using h)
  | [], i, s, h => absurd h (Nat.not_lt_zero _)
theorem set_getS : ∀ (δ : Sts) (i : Nat), δ.set i (getS δ i) = δ
  | [], i => rfl
  | x :: δ, 0 => rfl
  | x :: δ, i + 1 => by
    show x :: δ.set i (getS δ i) = _
    rw [set_getS δ i]
def strD (d : D) : D := match d with
  | .int i => .str (strI i)
  | _ => .none
/-- [str(x) for x in ..] -/
theorem comp_strs {call : Str → List Ev.Slot → FRes} {i : Nat} {it : It} {δ δ1 : Sts} {ns : List Int} (hi : evI call it δ = .ok (ns.map PyData.int) δ1) (hp : plainS δ1 [i] = true) (hl : ns.length ≤ 16777216) (hd : i < δ1.length) (hn : ∀ n ∈ ns, 0 ≤ n ∧ n < 100000000000000000000) :
    compS call [i] (.nm i) it .nil (.bi .str (.cons (.var i) .nil)) δ = .ok (.own (.lst ((ns.map strI).map PyData.str))) δ1 := by
  obtain ⟨δ2, ⟨s, rfl⟩, e⟩ := compS_map (call := call) (own := [i]) (tg := .nm i) (it := it) (elt := .bi .str (.cons (.var i) .nil)) (g := strD) (I := fun δ => ∃ s, δ = δ1.set i s) hi (by
    rw [hp, Bool.true_and, okLen_iff, List.length_map]; exact hl) ⟨getS δ1 i, (set_getS δ1 i).symm⟩ (by
    rintro d hd' δ ⟨s, rfl⟩
    obtain ⟨n, hn', rfl⟩ := List.mem_map.mp hd'
    obtain ⟨h0, h1⟩ := hn n hn'
    refine ⟨δ1.set i (.dat (.int n)), δ1.set i (.dat (.int n)), .dat (.str (strI n)), δ1.set i (.dat (.int n)), ?_, ?_, rfl, _, rfl⟩
    · show some (((δ1.set i s).set i .emp).set i (.dat (.int n))) = _
      rw [List.set_set, List.set_set]
    · have hg : getS (δ1.set i (.dat (.int n))) i = .dat (.int n) := getS_set_self hd
      simp [hg, bi_strN h0 h1])
  rw [e]
  have e2 : backS δ1 (δ1.set i s) [i] = δ1 := by
    show (δ1.set i s).set i (getS δ1 i) = _
    rw [List.set_set, set_getS]
  rw [e2, List.map_map, List.map_map]
  rfl
/-! ### items -/
def Item.nums : Item → List Int
  | .box n => [n]
  | .gap n => [n]
  | .cut n f => [n, f]
  | .stop => []
def Item.sign : Item → Str
  | .box _ => s_b
  | .gap _ => s_g
  | .cut _ _ => s_c
  | .stop => s_s
def Item.text (a : Item) : Str := a.sign ++ PySem.Txt.join s__2f_ (a.nums.map strI)
theorem nums_small {a : Item} (h : a.ok) : a.nums.length ≤ 2 ∧ ∀ n ∈ a.nums, 0 ≤ n ∧ n < 100000000000000000000 := by
  cases a <;> simp [Item.nums, Item.ok] at h ⊢ <;> omega
theorem bar_txs : Txs 1 s__2f_ := ⟨by decide, by decide⟩
theorem bl_txs : Txs 1 s__20_ := ⟨by decide, by decide⟩
theorem sign_txs (a : Item) : Txs 1 a.sign := by
  cases a
  · exact (⟨by decide, by decide⟩ : Txs 1 s_b)
  · exact (⟨by decide, by decide⟩ : Txs 1 s_g)
  · exact (⟨by decide, by decide⟩ : Txs 1 s_c)
  · exact (⟨by decide, by decide⟩ : Txs 1 s_s)
theorem text_txs {a : Item} (h : a.ok) : Txs 100 a.text := by
  obtain ⟨h1, h2⟩ := nums_small h
  have hj := Txs.join (k := 20) bar_txs (ys := a.nums.map strI) fun y hy => by
    obtain ⟨n, hn, rfl⟩ := List.mem_map.mp hy
    obtain ⟨g0, g1⟩ := h2 n hn
    exact num_txs g0 g1
  rw [List.length_map] at hj
  exact ((sign_txs a).app hj).mono (by omega)
theorem item_text_ok {a : Item} (h : a.ok) (n : Nat) : evF tbl (n + 1) s_item_5f_text [.dat a.enc] = .ret (.dat (.str a.text)) [.dat a.enc] := by
  obtain ⟨h1, h2⟩ := nums_small h
  have hy : ∀ y ∈ a.nums.map strI, Txs 20 y := fun y hy => by
    obtain ⟨n, hn, rfl⟩ := List.mem_map.mp hy
    obtain ⟨g0, g1⟩ := h2 n hn
    exact num_txs g0 g1
  have e := comp_strs (call := evF tbl n) (i := 1) (it := .seq (.slice (.var 0) (.some (.cst (.int 1))) .none)) (δ := [.dat a.enc, .emp]) (δ1 := [.dat a.enc, .emp]) (ns := a.nums) (by
    cases a <;> simp [Item.enc, Item.nums, cut1]) rfl (by omega) (by simp) h2
  have hj := Txs.join (k := 20) bar_txs hy
  have hJ := joinV_txs (k := 20) (s := s__2f_) (x := .lst ((a.nums.map strI).map PyData.str)) bar_txs hy rfl (by rw [List.length_map]; omega)
  have hsl := (sign_txs a).len
  have hjl := hj.len
  rw [List.length_map] at hjl
  have hadd : a.sign.length + (PySem.Txt.join s__2f_ (a.nums.map strI)).length ≤ 16777216 := by omega
  refine (run_of (F := f_item_text) (fl := .ret (.dat (.str a.text)) [.dat a.enc, .emp]) rfl rfl (by simp [f_item_text]) ?_).trans rfl
  generalize evF tbl n = call at e ⊢
  unfold Item.text
  generalize PySem.Txt.join s__2f_ (a.nums.map strI) = J at hJ hadd ⊢
  rw [List.map_map] at e hJ
  cases a <;> simp [Item.sign] at hadd <;> simp [f_item_text, Item.enc] at e <;> simp [f_item_text, Item.enc, lookA, e, hJ, hadd, Item.sign]
end Pl

set_option Elab.async false
set_option linter.all false
set_option maxRecDepth 100000
set_option maxHeartbeats 1000000
/-! The plain law of k88: reports of lines and breakings. -/
namespace Pl
open PySem Ev Core88 Wk
/-- an item from its data -/
def decI : D → Item
  | .tuple [.str x, .int n] => if x = s_box then .box n.toNat else .gap n.toNat
  | .tuple [_, .int n, .int f] => .cut n.toNat f.toNat
  | _ => .stop
@[simp] theorem decI_enc (a : Item) : decI a.enc = a := by
  cases a <;> simp [Item.enc, decI]
def textD (d : D) : D := .str (decI d).text
section
variable {p : List Item} {b t : Nat} {w fee : Int}
theorem wideL_le : ∀ {l : List Item}, (∀ a ∈ l, a.ok) → wideL l ≤ l.length * 1000
  | [], _ => by simp [wideL]
  | a :: l, h => by
    have h1 := wideL_le (l := l) fun x hx => h x (List.mem_cons_of_mem _ hx)
    have h2 : a.wide ≤ 1000 := by
      have := h a List.mem_cons_self
      cases a <;> simp [Item.wide, Item.ok] at this ⊢ <;> omega
    have h3 : wideL (a :: l) = a.wide + wideL l := by simp [wideL]
    rw [h3, List.length_cons]; omega
theorem seg_ok (hok : ∀ a ∈ p, a.ok) : ∀ a ∈ seg p b t, a.ok := fun a ha => hok a (List.mem_of_mem_take (List.mem_of_mem_drop ha))
theorem line_small (hl : p.length ≤ 100) (hok : ∀ a ∈ p, a.ok) (hf0 : 0 ≤ fee) (hf1 : fee ≤ 1000000) (hw1 : w ≤ 1000000) (hg : (lw p b t : Int) ≤ w) :
    (lw p b t : Int) ≤ 1000000 ∧ 0 ≤ lk p b t w ∧ lk p b t w ≤ 1000000 ∧ 0 ≤ lc p fee b t w ∧ lc p fee b t w ≤ 2000000000000 := by
  have h1 : 0 ≤ lk p b t w ∧ lk p b t w ≤ 1000000 := by
    unfold lk
    split <;> omega
  have h2 : feeO p[t]? ≤ 1000000 := by
    cases e : p[t]? with
    | none => simp [feeO]
    | some a =>
      have := hok a (List.mem_of_getElem? e)
      cases a <;> simp [feeO, Item.ok] at this ⊢ <;> omega
  have h3 : 0 ≤ lk p b t w * lk p b t w := Int.mul_nonneg h1.1 h1.1
  have h4 : lk p b t w * lk p b t w ≤ 1000000 * 1000000 := Int.mul_le_mul h1.2 h1.2 h1.1 (by decide)
  unfold lc
  omega
@[simp] theorem cut_par1 : cutL (p.map Item.enc) (some (b : Int)) (some ((t : Int) + 1)) = (seg p b (t + 1)).map Item.enc := by
  have h := cut_par (p := p) (b := b) (t := t + 1)
  rw [← h]; rfl
theorem items_line_ok (hl : p.length ≤ 100) (hok : ∀ a ∈ p, a.ok) (n : Nat) : evF tbl (n + 2) s_items_5f_line [.dat (par p), .dat (.int ((b : Int) - 1)), .dat (.int t)] = .ret (.dat (.str (PySem.Txt.join s__20_ ((seg p b (t + 1)).map Item.text)))) [.dat (par p), .dat (.int ((b : Int) - 1)), .dat (.int t)] := by
  have hsl := seg_len p b (t + 1)
  obtain ⟨δ2, ⟨s, rfl⟩, e⟩ := compS_map (call := evF tbl (n + 1)) (own := [3]) (tg := .nm 3) (it := .seq (.slice (.var 0) (.some (.bin .add (.var 1) (.cst (.int 1)))) (.some (.bin .add (.var 2) (.cst (.int 1)))))) (elt := .call s_item_5f_text (.cons (.var 3) .nil))
    (δ := [.dat (par p), .dat (.int ((b : Int) - 1)), .dat (.int t), .emp]) (δ1 := [.dat (par p), .dat (.int ((b : Int) - 1)), .dat (.int t), .emp]) (ds := (seg p b (t + 1)).map Item.enc) (g := textD) (I := fun δ => ∃ s, δ = [.dat (par p), .dat (.int ((b : Int) - 1)), .dat (.int t), s]) (by simp) (by
      show (true && okLen ((seg p b (t + 1)).map Item.enc).length) = true
      rw [Bool.true_and, okLen_iff, par_len]; omega) ⟨_, rfl⟩ (by
      rintro d hd δ ⟨s, rfl⟩
      obtain ⟨a, ha, rfl⟩ := List.mem_map.mp hd
      have hi := item_text_ok (seg_ok hok a ha) n
      refine ⟨[.dat (par p), .dat (.int ((b : Int) - 1)), .dat (.int t), .dat a.enc], [.dat (par p), .dat (.int ((b : Int) - 1)), .dat (.int t), .dat a.enc], .dat (textD a.enc), [.dat (par p), .dat (.int ((b : Int) - 1)), .dat (.int t), .dat a.enc], rfl, ?_, rfl, _, rfl⟩
      generalize evF tbl (n + 1) = call at hi ⊢
      simp [hi, textD])
  have hm : ((seg p b (t + 1)).map Item.enc).map textD = ((seg p b (t + 1)).map Item.text).map PyData.str := by
    rw [List.map_map, List.map_map]
    apply List.map_congr_left
    intro a _
    simp [textD]
  rw [hm] at e
  have hJ := joinV_txs (k := 100) (s := s__20_) (x := .lst (((seg p b (t + 1)).map Item.text).map PyData.str)) (ys := (seg p b (t + 1)).map Item.text) bl_txs (fun y hy => by
    obtain ⟨a, ha, rfl⟩ := List.mem_map.mp hy
    exact text_txs (seg_ok hok a ha)) rfl (by rw [List.length_map]; omega)
  refine (run_of (F := f_items_line) (fl := .ret (.dat (.str (PySem.Txt.join s__20_ ((seg p b (t + 1)).map Item.text)))) [.dat (par p), .dat (.int ((b : Int) - 1)), .dat (.int t), .emp]) rfl rfl (by simp [f_items_line]) ?_).trans rfl
  generalize evF tbl (n + 1) = call at e ⊢
  generalize ((seg p b (t + 1)).map Item.text).map PyData.str = Z at e hJ
  simp [f_items_line, e, hJ]
/-- a line's report -/
def lineT (p : List Item) (fee w : Int) (b t : Nat) : Str := (PySem.Txt.join s__20_ [strI (lw p b t), strI (lk p b t w), strI (lc p fee b t w)] ++ s__3a__20_) ++ PySem.Txt.join s__20_ ((seg p b (t + 1)).map Item.text)
theorem colon_txs : Txs 2 s__3a__20_ := ⟨by decide, by decide⟩
theorem items_txs (hl : p.length ≤ 100) (hok : ∀ a ∈ p, a.ok) : Txs 11000 (PySem.Txt.join s__20_ ((seg p b t).map Item.text)) := by
  have hsl := seg_len p b t
  refine (Txs.join (k := 100) bl_txs fun y hy => ?_).mono ?_
  · obtain ⟨a, ha, rfl⟩ := List.mem_map.mp hy
    exact text_txs (seg_ok hok a ha)
  · rw [List.length_map]; omega
theorem three_txs {x y z : Int} (hx : 0 ≤ x ∧ x < 100000000000000000000) (hy : 0 ≤ y ∧ y < 100000000000000000000) (hz : 0 ≤ z ∧ z < 100000000000000000000) : ∀ u ∈ [strI x, strI y, strI z], Txs 20 u := by
  intro u hu
  simp at hu
  rcases hu with rfl | rfl | rfl
  · exact num_txs hx.1 hx.2
  · exact num_txs hy.1 hy.2
  · exact num_txs hz.1 hz.2
theorem lineT_txs (hl : p.length ≤ 100) (hok : ∀ a ∈ p, a.ok) (hf0 : 0 ≤ fee) (hf1 : fee ≤ 1000000) (hw1 : w ≤ 1000000) (hg : (lw p b t : Int) ≤ w) : Txs 12000 (lineT p fee w b t) := by
  obtain ⟨h1, h2, h3, h4, h5⟩ := line_small hl hok hf0 hf1 hw1 hg
  have hj := Txs.join (k := 20) bl_txs (three_txs (x := lw p b t) (y := lk p b t w) (z := lc p fee b t w) (by omega) (by omega) (by omega))
  exact ((hj.app colon_txs).app (items_txs hl hok)).mono (by simp)
theorem line_report_ok (hl : p.length ≤ 100) (hok : ∀ a ∈ p, a.ok) (hf0 : 0 ≤ fee) (hf1 : fee ≤ 1000000) (hw0 : 0 ≤ w) (hw1 : w ≤ 1000000) (ht : t ≤ p.length) (hg : (lw p b t : Int) ≤ w) (n : Nat) :
    evF tbl (n + 5) s_line_5f_report [.dat (par p), .dat (.int fee), .dat (.tuple [begD b, .int t]), .dat (.int w)] = .ret (.dat (.str (lineT p fee w b t))) [.dat (par p), .dat (.int fee), .dat (.tuple [begD b, .int t]), .dat (.int w)] := by
  obtain ⟨h1, h2, h3, h4, h5⟩ := line_small hl hok hf0 hf1 hw1 hg
  have k1 := line_width_ok (p := p) (b := b) (t := t) (by omega) (n + 2)
  have k2 := line_lack_ok (p := p) (b := b) (t := t) (w := w) (by omega) ht (n + 1)
  have k3 := line_cost_ok (p := p) (fee := fee) (b := b) (t := t) (w := w) (by omega) hok ht hw0 hw1 n
  have k4 := items_line_ok (p := p) (b := b) (t := t) hl hok (n + 2)
  have h3t := three_txs (x := lw p b t) (y := lk p b t w) (z := lc p fee b t w) (by omega) (by omega) (by omega)
  have e := comp_strs (call := evF tbl (n + 4)) (i := 7) (it := .seq (.var 6)) (ns := [(lw p b t : Int), lk p b t w, lc p fee b t w])
    (δ := [.dat (par p), .dat (.int fee), .dat (.tuple [begD b, .int t]), .dat (.int w), .dat (begD b), .dat (.int t), .lst [.int (lw p b t), .int (lk p b t w), .int (lc p fee b t w)], .emp])
    (δ1 := [.dat (par p), .dat (.int fee), .dat (.tuple [begD b, .int t]), .dat (.int w), .dat (begD b), .dat (.int t), .dat (.list [.int (lw p b t), .int (lk p b t w), .int (lc p fee b t w)]), .emp]) rfl rfl (by simp) (by simp) (by simp; omega)
  have hJ := joinV_txs (k := 20) (s := s__20_) (x := .lst [.str (strI (lw p b t)), .str (strI (lk p b t w)), .str (strI (lc p fee b t w))]) bl_txs h3t rfl (by simp)
  have hj := (Txs.join (k := 20) bl_txs h3t)
  have hl1 : (PySem.Txt.join s__20_ [strI (lw p b t), strI (lk p b t w), strI (lc p fee b t w)]).length + s__3a__20_.length ≤ 16777216 := by
    have := hj.len
    have := colon_txs.len
    simp at *; omega
  have hl2 : (PySem.Txt.join s__20_ [strI (lw p b t), strI (lk p b t w), strI (lc p fee b t w)] ++ s__3a__20_).length + (PySem.Txt.join s__20_ ((seg p b (t + 1)).map Item.text)).length ≤ 16777216 := by
    have := (hj.app colon_txs).len
    have := (items_txs (p := p) (b := b) (t := t + 1) hl hok).len
    simp at *; omega
  refine (run_of (F := f_line_report) (fl := .ret (.dat (.str (lineT p fee w b t))) [.dat (par p), .dat (.int fee), .dat (.tuple [begD b, .int t]), .dat (.int w), .dat (begD b), .dat (.int t), .dat (.list [.int (lw p b t), .int (lk p b t w), .int (lc p fee b t w)]), .emp]) rfl rfl (by simp [f_line_report]) ?_).trans rfl
  generalize evF tbl (n + 4) = call at k1 k2 k3 k4 e ⊢
  unfold lineT
  generalize PySem.Txt.join s__20_ ((seg p b (t + 1)).map Item.text) = J2 at k4 hl2 ⊢
  generalize PySem.Txt.join s__20_ [strI (lw p b t), strI (lk p b t w), strI (lc p fee b t w)] = J1 at hJ hl1 hl2 ⊢
  simp only [List.map_cons, List.map_nil] at e
  simp [f_line_report, begD, k1, k2, k3, k4] at e ⊢
  simp [e, hJ, hl1, hl2, k4]
end
end Pl

set_option Elab.async false
set_option linter.all false
set_option maxRecDepth 100000
set_option maxHeartbeats 1000000
/-! The plain law of k88: breakings. -/
namespace Pl
open PySem Ev Core88 Wk
def endsF : Nat → List Nat → List (Nat × Nat)
  | _, [] => []
  | b, t :: r => (b, t) :: endsF (t + 1) r
def endD (q : Nat × Nat) : D := .tuple [begD q.1, .int q.2]
def brk (bs : List Nat) : D := .tuple (bs.map intN)
theorem ends_zip : ∀ (bs : List Nat) (b : Nat), zipL (begD b :: bs.map intN) (bs.map intN) = (endsF b bs).map endD
  | [], b => rfl
  | t :: r, b => by
    have e : (.int (t : Int) : D) = begD (t + 1) := by
      unfold begD
      have : ((t + 1 : Nat) : Int) - 1 = t := by omega
      rw [this]
    show PyData.tuple [begD b, .int t] :: zipL (.int (t : Int) :: r.map intN) (r.map intN) = _
    have ih := ends_zip r (t + 1)
    rw [← e] at ih
    rw [ih]; rfl
theorem ends_len : ∀ (bs : List Nat) (b : Nat), (endsF b bs).length = bs.length
  | [], b => rfl
  | t :: r, b => by show (endsF (t + 1) r).length + 1 = _; rw [ends_len r (t + 1)]; rfl
theorem ends_mem : ∀ {bs : List Nat} {b : Nat} {q : Nat × Nat}, q ∈ endsF b bs → q.2 ∈ bs
  | t :: r, b, q, h => by
    rcases List.mem_cons.mp (show q ∈ (b, t) :: endsF (t + 1) r from h) with rfl | h
    · exact List.mem_cons_self
    · exact List.mem_cons_of_mem _ (ends_mem h)
theorem ends_of_ok {bs : List Nat} (hb : bs.length ≤ 1000) (n : Nat) : evF tbl (n + 1) s_ends_5f_of [.dat (brk bs)] = .ret (.own (.lst ((endsF 0 bs).map endD))) [.dat (brk bs)] := by
  refine (run_of (F := f_ends_of) (fl := .ret (.own (.lst ((endsF 0 bs).map endD))) [.dat (brk bs)]) rfl rfl (by simp [f_ends_of]) ?_).trans rfl
  generalize evF tbl n = call
  have h1 : 1 + bs.length ≤ 16777216 := by omega
  have hz := ends_zip bs 0
  have e0 : begD 0 = .int (-1) := rfl
  rw [e0] at hz
  simp [f_ends_of, brk, h1, hz]
def goesB (p : List Item) (w : Int) (bs : List Nat) : Bool := (endsF 0 bs).all fun q => decide ((lw p q.1 q.2 : Int) ≤ w)
def goB (p : List Item) (w : Int) (d : D) : Bool := match d with
  | .tuple [.int a, .int t] => decide ((lw p (a + 1).toNat t.toNat : Int) ≤ w)
  | _ => false
def coD (p : List Item) (fee w : Int) (d : D) : D := match d with
  | .tuple [.int a, .int t] => .int (lc p fee (a + 1).toNat t.toNat w)
  | _ => .none
theorem beg_nat (b : Nat) : ((b : Int) - 1 + 1).toNat = b := by omega
section
variable {p : List Item} {w fee : Int} {bs : List Nat}
theorem raw_goes_ok (hl : p.length ≤ 100) (hb : bs.length ≤ 1000) (n : Nat) : evF tbl (n + 3) s_raw_5f_goes [.dat (par p), .dat (brk bs), .dat (.int w)] = .ret (.dat (.bool (goesB p w bs))) [.dat (par p), .dat (brk bs), .dat (.int w)] := by
  have he := ends_of_ok hb (n + 1)
  obtain ⟨δ2, ⟨s, s', rfl⟩, e⟩ := compS_map (call := evF tbl (n + 2)) (own := [3, 4]) (tg := .tup [3, 4]) (it := .seq (.call s_ends_5f_of (.cons (.var 1) .nil))) (elt := .cmp .le (.call s_line_5f_width (.cons (.var 0) (.cons (.var 3) (.cons (.var 4) .nil)))) (.var 2))
    (δ := [.dat (par p), .dat (brk bs), .dat (.int w), .emp, .emp]) (δ1 := [.dat (par p), .dat (brk bs), .dat (.int w), .emp, .emp]) (ds := (endsF 0 bs).map endD) (g := fun d => .bool (goB p w d)) (I := fun δ => ∃ s s', δ = [.dat (par p), .dat (brk bs), .dat (.int w), s, s']) (by
      generalize evF tbl (n + 2) = call at he ⊢
      simp [he]) (by
      show (true && okLen ((endsF 0 bs).map endD).length) = true
      rw [Bool.true_and, okLen_iff, List.length_map, ends_len]; omega) ⟨_, _, rfl⟩ (by
      rintro d hd δ ⟨s, s', rfl⟩
      obtain ⟨⟨b, t⟩, _, rfl⟩ := List.mem_map.mp hd
      have hw := line_width_ok (p := p) (b := b) (t := t) (by omega) n
      refine ⟨[.dat (par p), .dat (brk bs), .dat (.int w), .dat (begD b), .dat (.int t)], [.dat (par p), .dat (brk bs), .dat (.int w), .dat (begD b), .dat (.int t)], .dat (.bool (goB p w (endD (b, t)))), [.dat (par p), .dat (brk bs), .dat (.int w), .dat (begD b), .dat (.int t)], rfl, ?_, rfl, _, _, rfl⟩
      generalize evF tbl (n + 2) = call at hw ⊢
      simp [hw, endD, begD, goB])
  have hall : ((endsF 0 bs).map endD).all (goB p w) = goesB p w bs := by
    unfold goesB
    rw [List.all_map]
    congr 1
    funext q
    show decide ((lw p ((q.1 : Int) - 1 + 1).toNat (q.2 : Int).toNat : Int) ≤ w) = _
    rw [beg_nat]; rfl
  refine (run_of (F := f_raw_goes) (fl := .ret (.dat (.bool (goesB p w bs))) [.dat (par p), .dat (brk bs), .dat (.int w), .emp, .emp]) rfl rfl (by simp [f_raw_goes]) ?_).trans rfl
  generalize evF tbl (n + 2) = call at e ⊢
  generalize (endsF 0 bs).map endD = Z at e hall ⊢
  simp [f_raw_goes, e, hall]
def sumC (p : List Item) (fee w : Int) (bs : List Nat) : Int := ((endsF 0 bs).map fun q => lc p fee q.1 q.2 w).sum
theorem co_map : ((endsF 0 bs).map endD).map (coD p fee w) = ((endsF 0 bs).map fun q => lc p fee q.1 q.2 w).map PyData.int := by
  rw [List.map_map, List.map_map]
  apply List.map_congr_left
  intro q _
  show PyData.int (lc p fee ((q.1 : Int) - 1 + 1).toNat (q.2 : Int).toNat w) = _
  rw [beg_nat]; rfl
/-- the costs of the lines of some pairs -/
theorem costs_comp (hl : p.length ≤ 100) (hok : ∀ a ∈ p, a.ok) (hw0 : 0 ≤ w) (hw1 : w ≤ 1000000) (hE : ∀ q ∈ endsF 0 bs, q.2 ≤ p.length) (hb : bs.length ≤ 1000) (n : Nat) {it : It} {δ δ1 : Sts} {i j f ww : Nat}
    (hi : evI (evF tbl (n + 4)) it δ = .ok ((endsF 0 bs).map endD) δ1) (hp : plainS δ1 [i, j] = true) (I : Sts → Prop) (h0 : I δ1)
    (hs : ∀ (x y : D) δ, I δ → ∃ δ2, asgD (.tup [i, j]) (.tuple [x, y]) (wipeS δ [i, j]) = some δ2 ∧ getS δ2 0 = .dat (par p) ∧ getS δ2 f = .dat (.int fee) ∧ getS δ2 i = .dat x ∧ getS δ2 j = .dat y ∧ getS δ2 ww = .dat (.int w) ∧ I δ2) :
    ∃ δ2, I δ2 ∧ compS (evF tbl (n + 4)) [i, j] (.tup [i, j]) it .nil (.call s_line_5f_cost (.cons (.var 0) (.cons (.var f) (.cons (.var i) (.cons (.var j) (.cons (.var ww) .nil)))))) δ = .ok (.own (.lst (((endsF 0 bs).map fun q => lc p fee q.1 q.2 w).map PyData.int))) (backS δ1 δ2 [i, j]) := by
  obtain ⟨δ2, h2, e⟩ := compS_map (call := evF tbl (n + 4)) (own := [i, j]) (tg := .tup [i, j]) (it := it) (elt := .call s_line_5f_cost (.cons (.var 0) (.cons (.var f) (.cons (.var i) (.cons (.var j) (.cons (.var ww) .nil)))))) (g := coD p fee w) (I := I) hi (by
    rw [hp, Bool.true_and, okLen_iff, List.length_map, ends_len]; omega) h0 (by
    rintro d hd δ hI
    obtain ⟨⟨b, t⟩, hq, rfl⟩ := List.mem_map.mp hd
    obtain ⟨δ2, g1, g2, g3, g4, g5, g6, g7⟩ := hs (begD b) (.int t) δ hI
    have hc := line_cost_ok (p := p) (fee := fee) (b := b) (t := t) (w := w) (by omega) hok (hE _ hq) hw0 hw1 n
    refine ⟨δ2, δ2, .dat (coD p fee w (endD (b, t))), δ2, g1, ?_, rfl, g7⟩
    have hd2 : coD p fee w (endD (b, t)) = .int (lc p fee b t w) := by
      show PyData.int (lc p fee ((b : Int) - 1 + 1).toNat (t : Int).toNat w) = _
      rw [beg_nat]; rfl
    rw [hd2]
    generalize evF tbl (n + 4) = call at hc ⊢
    have hb : (begD b) = .int ((b : Int) - 1) := rfl
    rw [hb] at g4
    simp [g2, g3, g4, g5, g6, hc])
  rw [co_map] at e
  exact ⟨δ2, h2, e⟩
theorem raw_cost_ok (hl : p.length ≤ 100) (hok : ∀ a ∈ p, a.ok) (hw0 : 0 ≤ w) (hw1 : w ≤ 1000000) (hE : ∀ q ∈ endsF 0 bs, q.2 ≤ p.length) (hb : bs.length ≤ 1000) (n : Nat) :
    evF tbl (n + 5) s_raw_5f_cost [.dat (par p), .dat (.int fee), .dat (brk bs), .dat (.int w)] = .ret (.dat (if goesB p w bs then .int (sumC p fee w bs) else .none)) [.dat (par p), .dat (.int fee), .dat (brk bs), .dat (.int w)] := by
  have hg := raw_goes_ok (p := p) (w := w) (bs := bs) hl hb (n + 1)
  have he := ends_of_ok hb (n + 3)
  refine (run_of (F := f_raw_cost) (fl := .ret (.dat (if goesB p w bs then .int (sumC p fee w bs) else .none)) [.dat (par p), .dat (.int fee), .dat (brk bs), .dat (.int w), .emp, .emp]) rfl rfl (by simp [f_raw_cost]) ?_).trans rfl
  cases hgb : goesB p w bs with
  | false =>
    rw [hgb] at hg
    generalize evF tbl (n + 4) = call at hg ⊢
    simp [f_raw_cost, hg]
  | true =>
    obtain ⟨δ2, ⟨s, s', rfl⟩, e⟩ := costs_comp (p := p) (w := w) (fee := fee) (bs := bs) hl hok hw0 hw1 hE hb n (it := .seq (.call s_ends_5f_of (.cons (.var 2) .nil))) (i := 4) (j := 5) (f := 1) (ww := 3)
      (δ := [.dat (par p), .dat (.int fee), .dat (brk bs), .dat (.int w), .emp, .emp]) (δ1 := [.dat (par p), .dat (.int fee), .dat (brk bs), .dat (.int w), .emp, .emp]) (by
        generalize evF tbl (n + 4) = call at he ⊢
        simp [he]) rfl (fun δ => ∃ s s', δ = [.dat (par p), .dat (.int fee), .dat (brk bs), .dat (.int w), s, s']) ⟨_, _, rfl⟩ (by
        rintro x y δ ⟨s, s', rfl⟩
        exact ⟨_, rfl, rfl, rfl, rfl, rfl, rfl, _, _, rfl⟩)
    have hsum := bi_sumI ((endsF 0 bs).map fun q => lc p fee q.1 q.2 w)
    rw [hgb] at hg
    generalize evF tbl (n + 4) = call at hg e ⊢
    generalize ((endsF 0 bs).map fun q => lc p fee q.1 q.2 w).map PyData.int = Z at e hsum ⊢
    simp [f_raw_cost, hg, e, hsum, sumC]
/-! ### reports -/
def allT (k : Nat) (s : Int) : Str := ((s_all_20_ ++ strI k) ++ s__20_) ++ strI s
def repT (p : List Item) (fee w : Int) (bs : List Nat) : List Str := ((endsF 0 bs).map fun q => lineT p fee w q.1 q.2) ++ [allT bs.length (sumC p fee w bs)]
def liD (p : List Item) (fee w : Int) (d : D) : D := match d with
  | .tuple [.int a, .int t] => .str (lineT p fee w (a + 1).toNat t.toNat)
  | _ => .none
theorem li_map : ((endsF 0 bs).map endD).map (liD p fee w) = ((endsF 0 bs).map fun q => lineT p fee w q.1 q.2).map PyData.str := by
  rw [List.map_map, List.map_map]
  apply List.map_congr_left
  intro q _
  show PyData.str (lineT p fee w ((q.1 : Int) - 1 + 1).toNat (q.2 : Int).toNat) = _
  rw [beg_nat]; rfl
theorem sum_small {X : List (Nat × Nat)} (h : ∀ q ∈ X, 0 ≤ lc p fee q.1 q.2 w ∧ lc p fee q.1 q.2 w ≤ 2000000000000) : 0 ≤ (X.map fun q => lc p fee q.1 q.2 w).sum ∧ (X.map fun q => lc p fee q.1 q.2 w).sum ≤ X.length * 2000000000000 := by
  induction X with
  | nil => simp
  | cons q X ih =>
    have h1 := h q List.mem_cons_self
    have h2 := ih fun x hx => h x (List.mem_cons_of_mem _ hx)
    rw [List.map_cons, List.sum_cons, List.length_cons]
    push_cast
    omega
theorem all_txs : Txs 4 s_all_20_ := ⟨by decide, by decide⟩
theorem raw_report_ok (hl : p.length ≤ 100) (hok : ∀ a ∈ p, a.ok) (hf0 : 0 ≤ fee) (hf1 : fee ≤ 1000000) (hw0 : 0 ≤ w) (hw1 : w ≤ 1000000) (hE : ∀ q ∈ endsF 0 bs, q.2 ≤ p.length) (hg : goesB p w bs = true) (hb : bs.length ≤ 1000) (n : Nat) :
    evF tbl (n + 6) s_raw_5f_breaking_5f_report [.dat (par p), .dat (.int fee), .dat (brk bs), .dat (.int w)] = .ret (.own (.lst ((repT p fee w bs).map PyData.str))) [.dat (par p), .dat (.int fee), .dat (brk bs), .dat (.int w)] := by
  have he := ends_of_ok hb (n + 4)
  have hgo : ∀ q ∈ endsF 0 bs, (lw p q.1 q.2 : Int) ≤ w := fun q hq => of_decide_eq_true (List.all_eq_true.mp hg q hq)
  have hsm : ∀ q ∈ endsF 0 bs, 0 ≤ lc p fee q.1 q.2 w ∧ lc p fee q.1 q.2 w ≤ 2000000000000 := fun q hq => by
    obtain ⟨_, _, _, h4, h5⟩ := line_small (p := p) (b := q.1) (t := q.2) hl hok hf0 hf1 hw1 (hgo q hq)
    exact ⟨h4, h5⟩
  obtain ⟨hs0, hs1⟩ := sum_small hsm
  rw [ends_len] at hs1
  obtain ⟨δ2, ⟨s4, s, s', h4, rfl⟩, e1⟩ := costs_comp (p := p) (w := w) (fee := fee) (bs := bs) hl hok hw0 hw1 hE hb (n + 1) (it := .seq (.var 4)) (i := 7) (j := 8) (f := 1) (ww := 3)
    (δ := [.dat (par p), .dat (.int fee), .dat (brk bs), .dat (.int w), .lst ((endsF 0 bs).map endD), .emp, .emp, .emp, .emp, .emp]) (δ1 := [.dat (par p), .dat (.int fee), .dat (brk bs), .dat (.int w), .dat (.list ((endsF 0 bs).map endD)), .emp, .emp, .emp, .emp, .emp]) rfl rfl
    (fun δ => ∃ s4 s s', s4 = .dat (.list ((endsF 0 bs).map endD)) ∧ δ = [.dat (par p), .dat (.int fee), .dat (brk bs), .dat (.int w), s4, .emp, .emp, s, s', .emp]) ⟨_, _, _, rfl, rfl⟩ (by
      rintro x y δ ⟨s4, s, s', h4, rfl⟩
      exact ⟨_, rfl, rfl, rfl, rfl, rfl, rfl, _, _, _, h4, rfl⟩)
  subst h4
  obtain ⟨δ3, ⟨s9, rfl⟩, e2⟩ := compS_map (call := evF tbl (n + 5)) (own := [9]) (tg := .nm 9) (it := .seq (.var 4)) (elt := .call s_line_5f_report (.cons (.var 0) (.cons (.var 1) (.cons (.var 9) (.cons (.var 3) .nil)))))
    (δ := [.dat (par p), .dat (.int fee), .dat (brk bs), .dat (.int w), .dat (.list ((endsF 0 bs).map endD)), .dat (.int (sumC p fee w bs)), .emp, .emp, .emp, .emp]) (δ1 := [.dat (par p), .dat (.int fee), .dat (brk bs), .dat (.int w), .dat (.list ((endsF 0 bs).map endD)), .dat (.int (sumC p fee w bs)), .emp, .emp, .emp, .emp])
    (ds := (endsF 0 bs).map endD) (g := liD p fee w) (I := fun δ => ∃ s9, δ = [.dat (par p), .dat (.int fee), .dat (brk bs), .dat (.int w), .dat (.list ((endsF 0 bs).map endD)), .dat (.int (sumC p fee w bs)), .emp, .emp, .emp, s9]) rfl (by
      show (true && okLen ((endsF 0 bs).map endD).length) = true
      rw [Bool.true_and, okLen_iff, List.length_map, ends_len]; omega) ⟨_, rfl⟩ (by
      rintro d hd δ ⟨s9, rfl⟩
      obtain ⟨⟨b, t⟩, hq, rfl⟩ := List.mem_map.mp hd
      have hr := line_report_ok (p := p) (b := b) (t := t) (fee := fee) (w := w) hl hok hf0 hf1 hw0 hw1 (hE _ hq) (hgo _ hq) n
      have hd2 : liD p fee w (endD (b, t)) = .str (lineT p fee w b t) := by
        show PyData.str (lineT p fee w ((b : Int) - 1 + 1).toNat (t : Int).toNat) = _
        rw [beg_nat]; rfl
      refine ⟨[.dat (par p), .dat (.int fee), .dat (brk bs), .dat (.int w), .dat (.list ((endsF 0 bs).map endD)), .dat (.int (sumC p fee w bs)), .emp, .emp, .emp, .dat (endD (b, t))], [.dat (par p), .dat (.int fee), .dat (brk bs), .dat (.int w), .dat (.list ((endsF 0 bs).map endD)), .dat (.int (sumC p fee w bs)), .emp, .emp, .emp, .dat (endD (b, t))], .dat (.str (lineT p fee w b t)), [.dat (par p), .dat (.int fee), .dat (brk bs), .dat (.int w), .dat (.list ((endsF 0 bs).map endD)), .dat (.int (sumC p fee w bs)), .emp, .emp, .emp, .dat (endD (b, t))], rfl, ?_, by rw [hd2]; rfl, _, rfl⟩
      unfold endD
      generalize evF tbl (n + 5) = call at hr ⊢
      simp [hr])
  rw [li_map] at e2
  have hsum := bi_sumI ((endsF 0 bs).map fun q => lc p fee q.1 q.2 w)
  have hn1 := bi_strN (i := (bs.length : Int)) (by omega) (by omega)
  have hn2 := bi_strN (i := sumC p fee w bs) hs0 (by unfold sumC; omega)
  have t1 := num_txs (i := (bs.length : Int)) (by omega) (by omega)
  have t2 := num_txs (i := sumC p fee w bs) hs0 (by unfold sumC; omega)
  have l1 := all_txs.len
  have l2 := t1.len
  have l3 := (all_txs.app t1).len
  have l4 := bl_txs.len
  have l5 := ((all_txs.app t1).app bl_txs).len
  have l6 := t2.len
  have m1 : s_all_20_.length + (strI (bs.length : Int)).length ≤ 16777216 := by omega
  have m2 : (s_all_20_ ++ strI (bs.length : Int)).length + s__20_.length ≤ 16777216 := by omega
  have m3 : (s_all_20_ ++ strI (bs.length : Int) ++ s__20_).length + (strI (sumC p fee w bs)).length ≤ 16777216 := by omega
  have hrl : (((endsF 0 bs).map fun q => lineT p fee w q.1 q.2).map PyData.str).length + 1 ≤ 16777216 := by rw [List.length_map, List.length_map, ends_len]; omega
  have hel : ((endsF 0 bs).map endD).length = bs.length := by rw [List.length_map, ends_len]
  refine (run_of (F := f_raw_breaking_report) (fl := .ret (.own (.lst ((repT p fee w bs).map PyData.str))) [.dat (par p), .dat (.int fee), .dat (brk bs), .dat (.int w), .dat (.list ((endsF 0 bs).map endD)), .dat (.int (sumC p fee w bs)), .lst (((endsF 0 bs).map fun q => lineT p fee w q.1 q.2).map PyData.str), .emp, .emp, .emp]) rfl rfl (by simp [f_raw_breaking_report]) ?_).trans rfl
  have hrep : (repT p fee w bs).map PyData.str = ((endsF 0 bs).map fun q => lineT p fee w q.1 q.2).map PyData.str ++ [.str (allT bs.length (sumC p fee w bs))] := by
    unfold repT; rw [List.map_append]; rfl
  rw [hrep]
  have hsc : ((endsF 0 bs).map fun q => lc p fee q.1 q.2 w).sum = sumC p fee w bs := rfl
  rw [hsc] at hsum
  unfold allT
  generalize evF tbl (n + 5) = call at he e1 e2 ⊢
  generalize ((endsF 0 bs).map fun q => lc p fee q.1 q.2 w).map PyData.int = Z at e1 hsum
  generalize ((endsF 0 bs).map fun q => lineT p fee w q.1 q.2).map PyData.str = Y at e2 hrl ⊢
  generalize (endsF 0 bs).map endD = X at he e1 e2 hel ⊢
  generalize sumC p fee w bs = S at e2 hsum hn2 m3 ⊢
  simp at e1 e2
  simp [f_raw_breaking_report, he, e1, hsum, e2, hel, hn1, hn2, m1, m2, m3, hrl]
end
end Pl

set_option Elab.async false
set_option linter.all false
set_option maxRecDepth 100000
set_option maxHeartbeats 1000000
/-! The plain law of k88: what a breaking is. -/
namespace Pl
open PySem Ev Core88 Wk
structure Valid (p : List Item) (bs : List Nat) : Prop where
  last : bs.getLast? = some p.length
  up : bs.Pairwise (· < ·)
  pl : ∀ t ∈ bs, t ∈ places p
  st : ∀ s ∈ stops p, s ∈ bs
  len : bs.length ≤ 100
def IsBrk (p : List Item) (d : D) (b : Bool) : Prop := ∀ n, evF tbl (n + 3) s_is_5f_breaking_5f_of [.dat (par p), .dat d] = .ret (.dat (.bool b)) [.dat (par p), .dat d]
def inD (N : Nat) (d : D) : Bool := match d with
  | .int x => decide (0 ≤ x) && decide (x ≤ N)
  | _ => false
section
variable {p : List Item} {ms bs : List Nat}
theorem in_comp (hm : ms.length ≤ 1000) (n : Nat) : compS (evF tbl (n + 2)) [3] (.nm 3) (.seq (.var 1)) .nil (.call s_is_5f_within (.cons (.var 3) (.cons (.cst (.int 0)) (.cons (.bi .len (.cons (.var 0) .nil)) .nil)))) [.dat (par p), .dat (brk ms), .lst ((places p).map intN), .emp, .emp] =
    .ok (.own (.lst ((ms.map intN).map fun d => .bool (inD p.length d)))) [.dat (par p), .dat (brk ms), .lst ((places p).map intN), .emp, .emp] := by
  obtain ⟨δ2, ⟨s, rfl⟩, e⟩ := compS_map (call := evF tbl (n + 2)) (own := [3]) (tg := .nm 3) (it := .seq (.var 1)) (elt := .call s_is_5f_within (.cons (.var 3) (.cons (.cst (.int 0)) (.cons (.bi .len (.cons (.var 0) .nil)) .nil))))
    (δ := [.dat (par p), .dat (brk ms), .lst ((places p).map intN), .emp, .emp]) (δ1 := [.dat (par p), .dat (brk ms), .lst ((places p).map intN), .emp, .emp]) (ds := ms.map intN) (g := fun d => .bool (inD p.length d)) (I := fun δ => ∃ s, δ = [.dat (par p), .dat (brk ms), .lst ((places p).map intN), s, .emp]) rfl (by
      show (true && okLen (ms.map intN).length) = true
      rw [Bool.true_and, okLen_iff, List.length_map]; omega) ⟨_, rfl⟩ (by
      rintro d hd δ ⟨s, rfl⟩
      obtain ⟨x, _, rfl⟩ := List.mem_map.mp hd
      have hw := is_within_int n (x : Int) 0 p.length
      refine ⟨[.dat (par p), .dat (brk ms), .lst ((places p).map intN), .dat (.int x), .emp], [.dat (par p), .dat (brk ms), .lst ((places p).map intN), .dat (.int x), .emp], .dat (.bool (inD p.length (intN x))), [.dat (par p), .dat (brk ms), .lst ((places p).map intN), .dat (.int x), .emp], rfl, ?_, rfl, _, rfl⟩
      generalize evF tbl (n + 2) = call at hw ⊢
      generalize (places p).map intN = P
      simp only [inD, intN]
      simp [hw])
  exact e
theorem zip_lt : ∀ {bs : List Nat}, bs.Pairwise (· < ·) → ∀ d ∈ zipL (bs.map intN) ((bs.map intN).drop 1), ∃ x y : Nat, d = .tuple [.int x, .int y] ∧ x < y
  | [], _, d, h => by cases h
  | [a], _, d, h => by cases h
  | a :: b :: r, h, d, hd => by
    obtain ⟨h1, h2⟩ := List.pairwise_cons.mp h
    rcases List.mem_cons.mp (show d ∈ PyData.tuple [.int a, .int b] :: zipL ((b :: r).map intN) (((b :: r).map intN).drop 1) from hd) with rfl | hd
    · exact ⟨a, b, rfl, h1 b List.mem_cons_self⟩
    · exact zip_lt h2 d hd
theorem all_b (q : D → Bool) (ds : List D) (h : ∀ d ∈ ds, q d = true) : biV .all [.lst (ds.map fun d => PyData.bool (q d))] = some (.dat (.bool true)) := by
  rw [bi_allp]
  have : ds.all q = true := List.all_eq_true.mpr h
  rw [this]
theorem any_int (x : Nat) : ∀ ms : List Nat, ((ms.map intN).any fun z => PyData.eqv z (.int (x : Int))) = decide (x ∈ ms)
  | [] => by simp
  | m :: ms => by
    rw [List.map_cons, List.any_cons, any_int x ms]
    have e : PyData.eqv (intN m) (.int (x : Int)) = decide (m = x) := by
      show (((m : Int)) == (x : Int)) = _
      exact nat_beq m x
    rw [e, Bool.eq_iff_iff]
    simp only [Bool.or_eq_true, decide_eq_true_eq, List.mem_cons]
    constructor
    · rintro (h | h)
      · exact .inl h.symm
      · exact .inr h
    · rintro (h | h)
      · exact .inl h.symm
      · exact .inr h
theorem ints_lay (ms : List Nat) : eqOk (.list (ms.map intN)) = true :=
  (Lay.lst (k := 0) fun d hd => by
    obtain ⟨x, _, rfl⟩ := List.mem_map.mp hd
    exact Lay.int 0 _).ok (by decide)
theorem in_lst (x : Nat) (ms : List Nat) : inV (.dat (.int x)) (.lst (ms.map intN)) = some (decide (x ∈ ms)) := by
  show (if (eqOk (.int (x : Int)) && eqOk (.list (ms.map intN))) = true then some ((ms.map intN).any fun z => PyData.eqv z (.int (x : Int))) else none) = _
  rw [ints_lay, any_int]; rfl
theorem in_brk (x : Nat) (ms : List Nat) : inV (.dat (.int x)) (.dat (brk ms)) = some (decide (x ∈ ms)) := by
  show (if (flatD (.int (x : Int)) && (ms.map intN).all flatD) = true then some ((ms.map intN).any fun z => PyData.eqv z (.int (x : Int))) else none) = _
  have h : (ms.map intN).all flatD = true := by
    rw [List.all_map, List.all_eq_true]; intro _ _; rfl
  rw [h, any_int]; rfl
def memD (ms : List Nat) (d : D) : Bool := match d with
  | .int x => decide (x.toNat ∈ ms)
  | _ => false
theorem brk_ok (hl : p.length ≤ 100) (hv : Valid p bs) : IsBrk p (brk bs) true := fun n => by
  have hbl := hv.len
  have hp := raw_places_ok p (by omega) (n + 1)
  have hst := raw_stops_ok p (by omega) (n + 1)
  have hpl := places_len p
  have hsl : (stops p).length ≤ p.length := enumF_len _ _
  have e1 := in_comp (p := p) (ms := bs) (by omega) n
  have a1 := all_b (inD p.length) (bs.map intN) fun d hd => by
    obtain ⟨x, hx, rfl⟩ := List.mem_map.mp hd
    have := places_le (hv.pl x hx)
    simp [inD, intN]; omega
  obtain ⟨δ2, ⟨s, s', rfl⟩, e2⟩ := compS_map (call := evF tbl (n + 2)) (own := [3, 4]) (tg := .tup [3, 4]) (it := .zip (.var 1) (.slice (.var 1) (.some (.cst (.int 1))) .none)) (elt := .cmp .lt (.var 3) (.var 4))
    (δ := [.dat (par p), .dat (brk bs), .lst ((places p).map intN), .emp, .emp]) (δ1 := [.dat (par p), .dat (brk bs), .lst ((places p).map intN), .emp, .emp]) (ds := zipL (bs.map intN) ((bs.map intN).drop 1)) (g := fun _ => .bool true) (I := fun δ => ∃ s s', δ = [.dat (par p), .dat (brk bs), .lst ((places p).map intN), s, s']) (by
      simp [brk, cut1]) (by
      show (true && okLen (zipL (bs.map intN) ((bs.map intN).drop 1)).length) = true
      have := zip_le (bs.map intN) ((bs.map intN).drop 1)
      rw [List.length_map] at this
      rw [Bool.true_and, okLen_iff]; omega) ⟨_, _, rfl⟩ (by
      rintro d hd δ ⟨s, s', rfl⟩
      obtain ⟨x, y, rfl, hxy⟩ := zip_lt hv.up d hd
      refine ⟨[.dat (par p), .dat (brk bs), .lst ((places p).map intN), .dat (.int x), .dat (.int y)], [.dat (par p), .dat (brk bs), .lst ((places p).map intN), .dat (.int x), .dat (.int y)], .dat (.bool true), [.dat (par p), .dat (brk bs), .lst ((places p).map intN), .dat (.int x), .dat (.int y)], rfl, ?_, rfl, _, _, rfl⟩
      have hxy : (x : Int) < y := by omega
      generalize (places p).map intN = P
      simp [hxy])
  have a2 := all_b (fun _ => true) (zipL (bs.map intN) ((bs.map intN).drop 1)) fun _ _ => rfl
  obtain ⟨δ3, ⟨s3, rfl⟩, e3⟩ := compS_map (call := evF tbl (n + 2)) (own := [3]) (tg := .nm 3) (it := .seq (.var 1)) (elt := .cmp .isin (.var 3) (.var 2))
    (δ := [.dat (par p), .dat (brk bs), .lst ((places p).map intN), .emp, .emp]) (δ1 := [.dat (par p), .dat (brk bs), .lst ((places p).map intN), .emp, .emp]) (ds := bs.map intN) (g := fun _ => .bool true) (I := fun δ => ∃ s, δ = [.dat (par p), .dat (brk bs), .lst ((places p).map intN), s, .emp]) rfl (by
      show (true && okLen (bs.map intN).length) = true
      rw [Bool.true_and, okLen_iff, List.length_map]; omega) ⟨_, rfl⟩ (by
      rintro d hd δ ⟨s, rfl⟩
      obtain ⟨x, hx, rfl⟩ := List.mem_map.mp hd
      refine ⟨[.dat (par p), .dat (brk bs), .lst ((places p).map intN), .dat (.int x), .emp], [.dat (par p), .dat (brk bs), .lst ((places p).map intN), .dat (.int x), .emp], .dat (.bool true), [.dat (par p), .dat (brk bs), .lst ((places p).map intN), .dat (.int x), .emp], rfl, ?_, rfl, _, rfl⟩
      have hi := in_lst x (places p)
      rw [decide_eq_true (hv.pl x hx)] at hi
      generalize (places p).map intN = P at hi ⊢
      simp [hi])
  have a3 := all_b (fun _ => true) (bs.map intN) fun _ _ => rfl
  obtain ⟨δ4, ⟨s4, rfl⟩, e4⟩ := compS_map (call := evF tbl (n + 2)) (own := [3]) (tg := .nm 3) (it := .seq (.call s_raw_5f_stops (.cons (.var 0) .nil))) (elt := .cmp .isin (.var 3) (.var 1))
    (δ := [.dat (par p), .dat (brk bs), .lst ((places p).map intN), .emp, .emp]) (δ1 := [.dat (par p), .dat (brk bs), .lst ((places p).map intN), .emp, .emp]) (ds := (stops p).map intN) (g := fun _ => .bool true) (I := fun δ => ∃ s, δ = [.dat (par p), .dat (brk bs), .lst ((places p).map intN), s, .emp]) (by
      generalize evF tbl (n + 2) = call at hst ⊢
      simp [hst]) (by
      show (true && okLen ((stops p).map intN).length) = true
      rw [Bool.true_and, okLen_iff, List.length_map]; omega) ⟨_, rfl⟩ (by
      rintro d hd δ ⟨s, rfl⟩
      obtain ⟨x, hx, rfl⟩ := List.mem_map.mp hd
      refine ⟨[.dat (par p), .dat (brk bs), .lst ((places p).map intN), .dat (.int x), .emp], [.dat (par p), .dat (brk bs), .lst ((places p).map intN), .dat (.int x), .emp], .dat (.bool true), [.dat (par p), .dat (brk bs), .lst ((places p).map intN), .dat (.int x), .emp], rfl, ?_, rfl, _, rfl⟩
      have hi := in_brk x bs
      rw [decide_eq_true (hv.st x hx)] at hi
      generalize (places p).map intN = P
      generalize brk bs = B at hi ⊢
      simp [hi])
  have a4 := all_b (fun _ => true) ((stops p).map intN) fun _ _ => rfl
  have n0 : ¬(bs = []) := fun e => by
    have h := hv.last
    rw [e] at h
    cases h
  have n1 : (bs.map intN).getLast? = some (.int p.length) := by
    rw [List.getLast?_map, hv.last]; rfl
  have n2 : ((places p).map intN).getLast? = some (.int p.length) := by
    unfold places
    rw [List.map_append]
    exact List.getLast?_concat
  have lenb : ((bs.map intN).length : Int) = bs.length := by rw [List.length_map]
  refine (run_of (F := f_is_breaking_of) (fl := .ret (.dat (.bool true)) [.dat (par p), .dat (brk bs), .lst ((places p).map intN), .emp, .emp]) rfl rfl (by simp [f_is_breaking_of]) ?_).trans rfl
  unfold brk at e1 e2 e3 e4 ⊢
  generalize evF tbl (n + 2) = call at hp e1 e2 e3 e4 ⊢
  generalize (places p).map intN = P at hp e1 e2 e3 e4 n2 ⊢
  generalize (bs.map intN).map (fun d => PyData.bool (inD p.length d)) = X1 at e1 a1
  generalize (zipL (bs.map intN) ((bs.map intN).drop 1)).map (fun _ => PyData.bool true) = X2 at e2 a2
  generalize (bs.map intN).map (fun _ => PyData.bool true) = X3 at e3 a3
  generalize ((stops p).map intN).map (fun _ => PyData.bool true) = X4 at e4 a4
  generalize bs.map intN = B at e1 e2 e3 e4 n1 lenb ⊢
  simp at e1 e2 e3 e4
  simp [f_is_breaking_of, hp, e1, a1, lenb, n0, n1, n2, e2, a2, e3, a3, e4, a4]
theorem brk_nt {d : D} (hl : p.length ≤ 100) (hd : isTupleD d = false) : IsBrk p d false := fun n => by
  have hp := raw_places_ok p (by omega) (n + 1)
  refine (run_of (F := f_is_breaking_of) (fl := .ret (.dat (.bool false)) [.dat (par p), .dat d, .lst ((places p).map intN), .emp, .emp]) rfl rfl (by simp [f_is_breaking_of]) ?_).trans rfl
  generalize evF tbl (n + 2) = call at hp ⊢
  generalize (places p).map intN = P at hp ⊢
  simp [f_is_breaking_of, hp, hd]
theorem brk_nil (hl : p.length ≤ 100) : IsBrk p (.tuple []) false := fun n => by
  have hp := raw_places_ok p (by omega) (n + 1)
  have e1 := in_comp (p := p) (ms := []) (by simp) n
  have a1 := all_b (inD p.length) [] fun d hd => by cases hd
  refine (run_of (F := f_is_breaking_of) (fl := .ret (.dat (.bool false)) [.dat (par p), .dat (.tuple []), .lst ((places p).map intN), .emp, .emp]) rfl rfl (by simp [f_is_breaking_of]) ?_).trans rfl
  generalize evF tbl (n + 2) = call at hp e1 ⊢
  generalize (places p).map intN = P at hp e1 ⊢
  simp [brk] at e1
  simp at a1
  simp [f_is_breaking_of, hp, e1, a1]
theorem brk_more (hl : p.length ≤ 98) (hb : bs.length ≤ 100) : IsBrk p (brk (bs ++ [99])) false := fun n => by
  have hp := raw_places_ok p (by omega) (n + 1)
  have e1 := in_comp (p := p) (ms := bs ++ [99]) (by simp; omega) n
  have a1 : biV .all [.lst (((bs ++ [99]).map intN).map fun d => PyData.bool (inD p.length d))] = some (.dat (.bool false)) := by
    rw [bi_allp]
    have : ((bs ++ [99]).map intN).all (inD p.length) = false := by
      rw [List.map_append, List.all_append]
      have : [99].map intN = [PyData.int 99] := rfl
      rw [this]
      have h : inD p.length (.int 99) = false := by simp [inD]; omega
      simp [h]
    rw [this]
  refine (run_of (F := f_is_breaking_of) (fl := .ret (.dat (.bool false)) [.dat (par p), .dat (brk (bs ++ [99])), .lst ((places p).map intN), .emp, .emp]) rfl rfl (by simp [f_is_breaking_of]) ?_).trans rfl
  unfold brk at e1 ⊢
  generalize evF tbl (n + 2) = call at hp e1 ⊢
  generalize (places p).map intN = P at hp e1 ⊢
  generalize ((bs ++ [99]).map intN).map (fun d => PyData.bool (inD p.length d)) = X1 at e1 a1
  generalize (bs ++ [99]).map intN = B at e1 ⊢
  simp [f_is_breaking_of, hp, e1, a1]
end
end Pl

set_option Elab.async false
set_option linter.all false
set_option maxRecDepth 100000
set_option maxHeartbeats 1000000
/-! The plain law of k88: the reports. -/
namespace Pl
open PySem Ev Core88 Wk
def repD (p : List Item) (fee w : Int) (bs : List Nat) : D := if goesB p w bs then .tuple ((repT p fee w bs).map PyData.str) else .none
section
variable {p : List Item} {fee w : Int} {bs : List Nat}
theorem breaking_report_ok (hp : Good p) (hf0 : 0 ≤ fee) (hf1 : fee ≤ 1000000) (hw0 : 0 ≤ w) (hw1 : w ≤ 1000000) (hv : IsBrk p (brk bs) true) (hE : ∀ q ∈ endsF 0 bs, q.2 ≤ p.length) (hb : bs.length ≤ 1000) (n : Nat) :
    evF tbl (n + 7) s_breaking_5f_report [.dat (par p), .dat (.int fee), .dat (brk bs), .dat (.int w)] = .ret (.dat (repD p fee w bs)) [.dat (par p), .dat (.int fee), .dat (brk bs), .dat (.int w)] := by
  have hl := hp.len
  have hnw : IsNum (.int w) true := by have h := num_int w; rw [decide_eq_true hw0] at h; exact h
  have h1 := asked_ok (good_par hp) (fee_int hf0 hf1) hnw n
  have h2 := hv (n + 3)
  have h3 := raw_goes_ok (p := p) (w := w) (bs := bs) (by omega) hb (n + 3)
  refine (run_of (F := f_breaking_report) (fl := .ret (.dat (repD p fee w bs)) [.dat (par p), .dat (.int fee), .dat (brk bs), .dat (.int w)]) rfl rfl (by simp [f_breaking_report]) ?_).trans rfl
  unfold repD
  cases hg : goesB p w bs with
  | false =>
    rw [hg] at h3
    generalize evF tbl (n + 6) = call at h1 h2 h3 ⊢
    simp [f_breaking_report, h1, h2, h3]
  | true =>
    have h4 := raw_report_ok (fee := fee) (by omega) hp.ok hf0 hf1 hw0 hw1 hE hg hb n
    rw [hg] at h3
    generalize evF tbl (n + 6) = call at h1 h2 h3 h4 ⊢
    generalize (repT p fee w bs).map PyData.str = R at h4 ⊢
    simp [f_breaking_report, h1, h2, h3, h4]
theorem report_par {d f o m : D} (hd : IsPar d false) (n : Nat) : evF tbl (n + 7) s_breaking_5f_report [.dat d, .dat f, .dat o, .dat m] = .exc s_NoParagraph [.dat d, .dat f, .dat o, .dat m] := by
  have h1 := asked_par (f := f) (w := m) hd n
  refine (run_of (F := f_breaking_report) (fl := .exc s_NoParagraph [.dat d, .dat f, .dat o, .dat m]) rfl rfl (by simp [f_breaking_report]) ?_).trans rfl
  generalize evF tbl (n + 6) = call at h1 ⊢
  simp [f_breaking_report, h1]
theorem report_fee {d f o m : D} (hd : IsPar d true) (hf : IsFee f false) (n : Nat) : evF tbl (n + 7) s_breaking_5f_report [.dat d, .dat f, .dat o, .dat m] = .exc s_NoFee [.dat d, .dat f, .dat o, .dat m] := by
  have h1 := asked_fee (w := m) hd hf n
  refine (run_of (F := f_breaking_report) (fl := .exc s_NoFee [.dat d, .dat f, .dat o, .dat m]) rfl rfl (by simp [f_breaking_report]) ?_).trans rfl
  generalize evF tbl (n + 6) = call at h1 ⊢
  simp [f_breaking_report, h1]
theorem report_brk {f o m : D} (hp : Good p) (hf : IsFee f true) (hm : IsNum m true) (ho : IsBrk p o false) (n : Nat) : evF tbl (n + 7) s_breaking_5f_report [.dat (par p), .dat f, .dat o, .dat m] = .exc s_NoBreaking [.dat (par p), .dat f, .dat o, .dat m] := by
  have h1 := asked_ok (good_par hp) hf hm n
  have h2 := ho (n + 3)
  refine (run_of (F := f_breaking_report) (fl := .exc s_NoBreaking [.dat (par p), .dat f, .dat o, .dat m]) rfl rfl (by simp [f_breaking_report]) ?_).trans rfl
  generalize evF tbl (n + 6) = call at h1 h2 ⊢
  simp [f_breaking_report, h1, h2]
def costD (p : List Item) (fee w : Int) (bs : List Nat) : D := if goesB p w bs then .int (sumC p fee w bs) else .none
theorem cost_of_ok (hp : Good p) (hf0 : 0 ≤ fee) (hf1 : fee ≤ 1000000) (hw0 : 0 ≤ w) (hw1 : w ≤ 1000000) (hv : IsBrk p (brk bs) true) (hE : ∀ q ∈ endsF 0 bs, q.2 ≤ p.length) (hb : bs.length ≤ 1000) (n : Nat) :
    evF tbl (n + 6) s_cost_5f_of [.dat (par p), .dat (.int fee), .dat (brk bs), .dat (.int w)] = .ret (.dat (costD p fee w bs)) [.dat (par p), .dat (.int fee), .dat (brk bs), .dat (.int w)] := by
  have hl := hp.len
  have hnw : IsNum (.int w) true := by have h := num_int w; rw [decide_eq_true hw0] at h; exact h
  have h1 := check_ok (good_par hp) n
  have h2 := check_fee (fee_int hf0 hf1) (n + 1)
  have h3 := hv (n + 2)
  have h4 := check_meas hnw (n + 2)
  have h5 := raw_cost_ok (fee := fee) (bs := bs) (by omega) hp.ok hw0 hw1 hE hb n
  refine (run_of (F := f_cost_of) (fl := .ret (.dat (costD p fee w bs)) [.dat (par p), .dat (.int fee), .dat (brk bs), .dat (.int w)]) rfl rfl (by simp [f_cost_of]) ?_).trans rfl
  have h5 : evF tbl (n + 5) s_raw_5f_cost [.dat (par p), .dat (.int fee), .dat (brk bs), .dat (.int w)] = .ret (.dat (costD p fee w bs)) [.dat (par p), .dat (.int fee), .dat (brk bs), .dat (.int w)] := h5
  generalize evF tbl (n + 5) = call at h1 h2 h3 h4 h5 ⊢
  simp [f_cost_of, h1, h2, h3, h4, h5]
/-! ### the best -/
def nextB : Nat → List Nat → Nat
  | b, [] => b
  | _, t :: r => nextB (t + 1) r
theorem ends_snoc : ∀ (bs : List Nat) (b t : Nat), endsF b (bs ++ [t]) = endsF b bs ++ [(nextB b bs, t)]
  | [], b, t => rfl
  | x :: r, b, t => by
    show (b, x) :: endsF (x + 1) (r ++ [t]) = (b, x) :: endsF (x + 1) r ++ [(nextB (x + 1) r, t)]
    rw [ends_snoc r (x + 1) t]; rfl
theorem next_snoc : ∀ (bs : List Nat) (b t : Nat), nextB b (bs ++ [t]) = t + 1
  | [], b, t => rfl
  | x :: r, b, t => next_snoc r (x + 1) t
/-- the lines of a breaking are within a measure -/
structure Row (p : List Item) (w : Int) (bs : List Nat) : Prop where
  ends : ∀ q ∈ endsF 0 bs, q.1 ≤ q.2 ∧ q.2 ∈ places p ∧ (lw p q.1 q.2 : Int) ≤ w
  len : bs.length ≤ p.length + 1
theorem path_row {l : List Int} {x : Int} (h : Path (within p w) l x) : ∃ bs : List Nat, l = bs.map (fun (t : Nat) => (t : Int)) ∧ (nextB 0 bs : Int) = x + 1 ∧ ∀ q ∈ endsF 0 bs, q.1 ≤ q.2 ∧ q.2 ∈ places p ∧ (lw p q.1 q.2 : Int) ≤ w := by
  induction h with
  | nil => exact ⟨[], rfl, rfl, (fun q h => by cases h)⟩
  | snoc h1 h2 ih =>
    rename_i l x y
    obtain ⟨bs, rfl, e, hq⟩ := ih
    obtain ⟨b, t, eq, g1, g2, g3⟩ := within_mem h2
    injection eq with eq1 eq2
    subst eq2
    have hb : nextB 0 bs = b := by omega
    refine ⟨bs ++ [t], by simp, by rw [next_snoc]; omega, fun q hm => ?_⟩
    rw [ends_snoc] at hm
    rcases List.mem_append.mp hm with hm | hm
    · exact hq q hm
    · simp at hm; subst hm
      rw [hb]
      exact ⟨g1, g2, g3⟩
theorem path_brk {l : List Int} (h : Path (within p w) l p.length) : ∃ bs : List Nat, PyData.tuple (l.map PyData.int) = brk bs ∧ Row p w bs := by
  obtain ⟨bs, rfl, _, hq⟩ := path_row h
  have hlen := h.len.1
  rw [List.length_map] at hlen
  refine ⟨bs, ?_, hq, by omega⟩
  unfold brk
  rw [List.map_map]; rfl
theorem Row.goes (h : Row p w bs) : goesB p w bs = true := List.all_eq_true.mpr fun q hq => decide_eq_true (h.ends q hq).2.2
theorem Row.le (h : Row p w bs) : ∀ q ∈ endsF 0 bs, q.2 ≤ p.length := fun q hq => places_le (h.ends q hq).2.1
def nsT (ns : List Int) : Str := if ns = [] then s__2d_ else PySem.Txt.join s__20_ (ns.map strI)
theorem ns_txs {ns : List Int} (h : Small ns) : ∀ y ∈ ns.map strI, Txs 20 y := fun y hy => by
  obtain ⟨i, hi, rfl⟩ := List.mem_map.mp hy
  have := h.2 i hi
  exact num_txs (by omega) (by omega)
theorem nsT_txs {ns : List Int} (h : Small ns) : Txs 4300000 (nsT ns) := by
  unfold nsT
  split
  · exact (⟨by decide, by decide⟩ : Txs 1 s__2d_).mono (by decide)
  · refine (Txs.join (k := 20) bl_txs (ns_txs h)).mono ?_
    have := h.1
    rw [List.length_map]; omega
theorem narrow_txs : Txs 7 s_narrow_20_ := ⟨by decide, by decide⟩
/-- what best_report tells of what is told -/
inductive BestR (p : List Item) (fee w : Int) : D → D → Prop
  | best {v : Int} {bs : List Nat} : Row p w bs → BestR p fee w (.tuple [.str s_best, .int v, brk bs]) (.tuple ((repT p fee w bs).map PyData.str))
  | narrow {ns : List Int} : Small ns → BestR p fee w (.tuple [.str s_narrow, .tuple (ns.map PyData.int)]) (.tuple [.str (s_narrow_20_ ++ nsT ns)])
@[simp] theorem ok_best : eqOk (.str s_best) = true := by decide +kernel
@[simp] theorem ok_narrow : eqOk (.str s_narrow) = true := by decide +kernel
@[simp] theorem bq_narrow : (s_narrow == s_best) = false := by decide
theorem best_report_ok (hp : Good p) (hf0 : 0 ≤ fee) (hf1 : fee ≤ 1000000) (hw0 : 0 ≤ w) (hw1 : w ≤ 1000000) {d r : D} (hT : BestR p fee w d r) {n : Nat} (hb : evF tbl (n + 7) s_raw_5f_best [.dat (par p), .dat (.int fee), .dat (.int w)] = .ret (.dat d) [.dat (par p), .dat (.int fee), .dat (.int w)]) :
    evF tbl (n + 8) s_best_5f_report [.dat (par p), .dat (.int fee), .dat (.int w)] = .ret (.dat r) [.dat (par p), .dat (.int fee), .dat (.int w)] := by
  have hl := hp.len
  have hnw : IsNum (.int w) true := by have h := num_int w; rw [decide_eq_true hw0] at h; exact h
  have h1 := asked_ok (good_par hp) (fee_int hf0 hf1) hnw (n + 1)
  cases hT with
  | best hr =>
    rename_i v bs
    have hbl := hr.len
    have h2 := raw_report_ok (fee := fee) (by omega) hp.ok hf0 hf1 hw0 hw1 hr.le hr.goes (by omega) (n + 1)
    refine (run_of (F := f_best_report) (fl := .ret (.dat (.tuple ((repT p fee w bs).map PyData.str))) [.dat (par p), .dat (.int fee), .dat (.int w), .dat (.tuple [.str s_best, .int v, brk bs]), .emp, .emp]) rfl rfl (by simp [f_best_report]) ?_).trans rfl
    generalize evF tbl (n + 7) = call at h1 h2 hb ⊢
    generalize (repT p fee w bs).map PyData.str = R at h2 ⊢
    simp [f_best_report, h1, h2, hb]
  | narrow hs =>
    rename_i ns
    have hsl := hs.1
    have e := comp_strs (call := evF tbl (n + 7)) (i := 5) (it := .seq (.sub (.var 3) (.cst (.int 1)))) (ns := ns)
      (δ := [.dat (par p), .dat (.int fee), .dat (.int w), .dat (.tuple [.str s_narrow, .tuple (ns.map PyData.int)]), .emp, .emp]) (δ1 := [.dat (par p), .dat (.int fee), .dat (.int w), .dat (.tuple [.str s_narrow, .tuple (ns.map PyData.int)]), .emp, .emp]) rfl rfl (by omega) (by simp) (fun i hi => by have := hs.2 i hi; omega)
    have hJ := joinV_txs (k := 20) (s := s__20_) (x := .lst ((ns.map strI).map PyData.str)) bl_txs (ns_txs hs) rfl (by rw [List.length_map]; omega)
    have t1 := nsT_txs hs
    have m1 : s_narrow_20_.length + (nsT ns).length ≤ 16777216 := by
      have := narrow_txs.len
      have := t1.len
      omega
    refine (run_of (F := f_best_report) (fl := .ret (.dat (.tuple [.str (s_narrow_20_ ++ nsT ns)])) [.dat (par p), .dat (.int fee), .dat (.int w), .dat (.tuple [.str s_narrow, .tuple (ns.map PyData.int)]), .dat (.str (nsT ns)), .emp]) rfl rfl (by simp [f_best_report]) ?_).trans rfl
    by_cases h0 : ns = []
    · subst h0
      have hn : nsT [] = s__2d_ := rfl
      rw [hn] at m1 ⊢
      generalize evF tbl (n + 7) = call at h1 hb ⊢
      simp at hb
      simp [f_best_report, h1, hb, m1]
    · have hn : nsT ns = PySem.Txt.join s__20_ (ns.map strI) := if_neg h0
      have hpos : (0 : Int) < ns.length := by
        have := List.length_pos_iff.mpr h0
        omega
      have hpos2 : 0 < ns.length := List.length_pos_iff.mpr h0
      have hlen : ((ns.map PyData.int).length : Int) = ns.length := by rw [List.length_map]
      rw [hn] at m1 ⊢
      generalize evF tbl (n + 7) = call at h1 hb e ⊢
      generalize PySem.Txt.join s__20_ (ns.map strI) = J at hJ m1 ⊢
      generalize (ns.map strI).map PyData.str = Z at e hJ
      generalize ns.map PyData.int = Y at hb e hlen ⊢
      simp [f_best_report, h1, hb, hlen, h0, e, hJ, m1, hpos2]
theorem best_meas {m : D} (hp : Good p) (hf : IsFee (.int fee) true) (hm : IsNum m false) (n : Nat) : evF tbl (n + 7) s_best_5f_report [.dat (par p), .dat (.int fee), .dat m] = .exc s_NoMeasure [.dat (par p), .dat (.int fee), .dat m] := by
  have h1 := asked_meas (good_par hp) hf hm n
  refine (run_of (F := f_best_report) (fl := .exc s_NoMeasure [.dat (par p), .dat (.int fee), .dat m, .emp, .emp, .emp]) rfl rfl (by simp [f_best_report]) ?_).trans rfl
  generalize evF tbl (n + 6) = call at h1 ⊢
  simp [f_best_report, h1]
theorem told_best {d : D} (h : Told p fee w d) : ∃ r, BestR p fee w d r := by
  cases h with
  | best h =>
    obtain ⟨bs, e, hr⟩ := path_brk h
    rw [e]
    exact ⟨_, .best hr⟩
  | narrow h => exact ⟨_, .narrow h⟩
end
end Pl

set_option Elab.async false
set_option linter.all false
set_option maxRecDepth 100000
set_option maxHeartbeats 1000000
/-! The plain law of k88: the law's own report. -/
namespace Pl
open PySem Ev Core88 Wk
theorem str_assoc (a b c : Str) : a ++ b ++ c = a ++ (b ++ c) := by
  show (⟨a.cps ++ b.cps ++ c.cps⟩ : Str) = ⟨a.cps ++ (b.cps ++ c.cps)⟩
  rw [Array.append_assoc]
theorem str_nil (a : Str) : a ++ (⟨#[]⟩ : Str) = a := by
  show (⟨a.cps ++ #[]⟩ : Str) = a
  rw [Array.append_empty]
@[simp] theorem box_sign : subV (.dat (.str s_box)) (.dat (.int 0)) = some (.dat (.str s_b)) := by rfl
@[simp] theorem gap_sign : subV (.dat (.str s_gap)) (.dat (.int 0)) = some (.dat (.str s_g)) := by rfl
theorem law_item_ok {a : Item} (h : a.ok) (n : Nat) : evF tbl (n + 1) s__5f_law_5f_item [.dat a.enc] = .ret (.dat (.str a.text)) [.dat a.enc] := by
  refine (run_of (F := f__law_item) (fl := .ret (.dat (.str a.text)) [.dat a.enc]) rfl rfl (by simp [f__law_item]) ?_).trans rfl
  generalize evF tbl n = call
  obtain ⟨_, hn⟩ := nums_small h
  cases a with
  | box k =>
    have hk := hn (k : Int) (by simp [Item.nums])
    have hs := bi_strN hk.1 hk.2
    have hl := (num_txs hk.1 hk.2).len
    have m1 : s_b.length + (strI (k : Int)).length ≤ 16777216 := by
      have : s_b.length = 1 := rfl
      omega
    have ht : (Item.box k).text = s_b ++ strI (k : Int) := by simp [Item.text, Item.sign, Item.nums, join_one]
    rw [ht]
    simp only [f__law_item, Item.enc]
    simp [hs, m1, -sub_S]
  | gap k =>
    have hk := hn (k : Int) (by simp [Item.nums])
    have hs := bi_strN hk.1 hk.2
    have hl := (num_txs hk.1 hk.2).len
    have m1 : s_g.length + (strI (k : Int)).length ≤ 16777216 := by
      have : s_g.length = 1 := rfl
      omega
    have ht : (Item.gap k).text = s_g ++ strI (k : Int) := by simp [Item.text, Item.sign, Item.nums, join_one]
    rw [ht]
    simp only [f__law_item, Item.enc]
    simp [hs, m1, -sub_S]
  | cut k f =>
    have hk := hn (k : Int) (by simp [Item.nums])
    have hf := hn (f : Int) (by simp [Item.nums])
    have hs := bi_strN hk.1 hk.2
    have hs2 := bi_strN hf.1 hf.2
    have t0 : Txs 1 s_c := ⟨by decide, by decide⟩
    have t1 := num_txs hk.1 hk.2
    have t2 := num_txs hf.1 hf.2
    have l0 := t0.len
    have l1 := t1.len
    have l2 := (t0.app t1).len
    have l3 := bar_txs.len
    have l4 := ((t0.app t1).app bar_txs).len
    have l5 := t2.len
    have m1 : s_c.length + (strI (k : Int)).length ≤ 16777216 := by omega
    have m2 : (s_c ++ strI (k : Int)).length + s__2f_.length ≤ 16777216 := by omega
    have m3 : (s_c ++ strI (k : Int) ++ s__2f_).length + (strI (f : Int)).length ≤ 16777216 := by omega
    have ht : (Item.cut k f).text = s_c ++ strI (k : Int) ++ s__2f_ ++ strI (f : Int) := by
      show s_c ++ PySem.Txt.join s__2f_ [strI (k : Int), strI (f : Int)] = _
      rw [join_cons2, join_one, str_assoc, str_assoc, str_assoc]
    rw [ht]
    simp [f__law_item, Item.enc, hs, hs2, m1, m2, m3]
  | stop =>
    have ht : Item.stop.text = s_s := by
      show s_s ++ PySem.Txt.join s__2f_ [] = _
      rw [join_nil, str_nil]
    rw [ht]
    simp [f__law_item, Item.enc]
/-! ### one line -/
theorem seg_end {p : List Item} {b t : Nat} (hbt : b ≤ t) : seg p b (t + 1) = seg p b t ++ (match p[t]? with
    | some a => [a]
    | none => []) := by
  unfold seg
  by_cases h : t < p.length
  · have e : p[t]? = some p[t] := List.getElem?_eq_getElem h
    rw [e, List.take_succ, e]
    simp only [Option.toList]
    rw [List.drop_append_of_le_length (by rw [List.length_take]; omega)]
  · have e : p[t]? = none := List.getElem?_eq_none (by omega)
    rw [e, List.take_of_length_le (by omega), List.take_of_length_le (by omega), List.append_nil]
theorem join_app (s : Str) : ∀ (xs ys : List Str), xs ≠ [] → ys ≠ [] → PySem.Txt.join s (xs ++ ys) = PySem.Txt.join s xs ++ s ++ PySem.Txt.join s ys
  | [], _, h, _ => absurd rfl h
  | [x], y :: ys, _, _ => by
    show PySem.Txt.join s (x :: y :: ys) = _
    rw [join_cons2, join_one]
  | [x], [], _, h => absurd rfl h
  | x :: y :: xs, ys, _, h => by
    show PySem.Txt.join s (x :: y :: (xs ++ ys)) = _
    rw [join_cons2, join_cons2]
    have ih := join_app s (y :: xs) ys (by simp) h
    rw [show y :: xs ++ ys = y :: (xs ++ ys) from rfl] at ih
    rw [ih]
    simp only [str_assoc]
theorem line_same {p : List Item} {fee w : Int} {b t : Nat} (hn : seg p b (t + 1) ≠ []) : PySem.Txt.join s__20_ ([strI (lw p b t), strI (lk p b t w), strI (lc p fee b t w) ++ s__3a_] ++ (seg p b (t + 1)).map Item.text) = lineT p fee w b t := by
  rw [join_app _ _ _ (by simp) (by simpa using hn)]
  unfold lineT
  have e : s__3a__20_ = s__3a_ ++ s__20_ := by decide
  rw [e]
  rw [join_cons2, join_cons2, join_one, join_cons2, join_cons2, join_one]
  simp only [str_assoc]
def repB : Ss := match f__law_report.body with
  | .cons _ (.cons (.for _ _ b) _) => b
  | _ => .nil
def endS (o : Option Item) : D := match o with
  | some a => a.enc
  | none => .none
section
variable {p : List Item} {fee w s : Int} {b t : Nat} {B : D}
theorem wide_comp {R : List D} {s8 s9 s10 s11 s12 s13 : Ev.Slot} (hl : p.length ≤ 100) (call : Str → List Ev.Slot → FRes) : ∃ ns : List Int, ns.sum = wideL (seg p b t) ∧ compS call [14] (.nm 14) (.seq (.var 8)) (.cons (.cmp .isin (.sub (.var 14) (.cst (.int 0))) (.tup (.cons (.cst (.str s_box)) (.cons (.cst (.str s_gap)) .nil)))) .nil) (.sub (.var 14) (.cst (.int 1)))
    [.dat (par p), .dat (.int fee), .dat B, .dat (.int w), .lst R, .dat (.int b), .dat (.int s), .dat (.int t), .lst ((seg p b t).map Item.enc), s9, s10, s11, s12, s13, .emp] =
    .ok (.own (.lst (ns.map PyData.int))) [.dat (par p), .dat (.int fee), .dat B, .dat (.int w), .lst R, .dat (.int b), .dat (.int s), .dat (.int t), .dat (.list ((seg p b t).map Item.enc)), s9, s10, s11, s12, s13, .emp] := by
  have hsl := seg_len p b t
  obtain ⟨δ2, ⟨x, rfl⟩, e⟩ := compS_filter (call := call) (own := [14]) (tg := .nm 14) (it := .seq (.var 8)) (cs := .cons (.cmp .isin (.sub (.var 14) (.cst (.int 0))) (.tup (.cons (.cst (.str s_box)) (.cons (.cst (.str s_gap)) .nil)))) .nil) (elt := .sub (.var 14) (.cst (.int 1)))
    (δ := [.dat (par p), .dat (.int fee), .dat B, .dat (.int w), .lst R, .dat (.int b), .dat (.int s), .dat (.int t), .lst ((seg p b t).map Item.enc), s9, s10, s11, s12, s13, .emp])
    (δ1 := [.dat (par p), .dat (.int fee), .dat B, .dat (.int w), .lst R, .dat (.int b), .dat (.int s), .dat (.int t), .dat (.list ((seg p b t).map Item.enc)), s9, s10, s11, s12, s13, .emp])
    (ds := (seg p b t).map Item.enc) (p := isWide) (g := wideD) (I := fun δ => ∃ x, δ = [.dat (par p), .dat (.int fee), .dat B, .dat (.int w), .lst R, .dat (.int b), .dat (.int s), .dat (.int t), .dat (.list ((seg p b t).map Item.enc)), s9, s10, s11, s12, s13, x]) rfl (by
      show (true && okLen ((seg p b t).map Item.enc).length) = true
      rw [Bool.true_and, okLen_iff, par_len]; omega) ⟨_, rfl⟩ (by
      rintro d hd δ ⟨x, rfl⟩
      obtain ⟨a, _, rfl⟩ := List.mem_map.mp hd
      refine ⟨[.dat (par p), .dat (.int fee), .dat B, .dat (.int w), .lst R, .dat (.int b), .dat (.int s), .dat (.int t), .dat (.list ((seg p b t).map Item.enc)), s9, s10, s11, s12, s13, .dat a.enc], [.dat (par p), .dat (.int fee), .dat B, .dat (.int w), .lst R, .dat (.int b), .dat (.int s), .dat (.int t), .dat (.list ((seg p b t).map Item.enc)), s9, s10, s11, s12, s13, .dat a.enc], rfl, ?_, fun _ => ⟨_, rfl⟩, fun h => ⟨[.dat (par p), .dat (.int fee), .dat B, .dat (.int w), .lst R, .dat (.int b), .dat (.int s), .dat (.int t), .dat (.list ((seg p b t).map Item.enc)), s9, s10, s11, s12, s13, .dat a.enc], .dat (wideD a.enc), [.dat (par p), .dat (.int fee), .dat B, .dat (.int w), .lst R, .dat (.int b), .dat (.int s), .dat (.int t), .dat (.list ((seg p b t).map Item.enc)), s9, s10, s11, s12, s13, .dat a.enc], ?_, rfl, _, rfl⟩⟩
      · generalize (seg p b t).map Item.enc = SG
        cases a <;> simp [Item.enc, isWide, inV_two]
      · generalize (seg p b t).map Item.enc = SG
        cases a <;> first | (simp [isWide, Item.enc] at h; done) | simp [Item.enc, wideD])
  obtain ⟨ns, h1, h2⟩ := wide_sum (seg p b t)
  rw [h1] at e
  exact ⟨ns, h2, e⟩
theorem words_comp {R : List D} {s10 s11 s12 s13 : Ev.Slot} (hl : p.length ≤ 100) (hok : ∀ a ∈ p, a.ok) (hbt : b ≤ t) (n : Nat) : compS (evF tbl (n + 1)) [14] (.nm 14) (.seq (.bin .add (.var 8) (.ite (.cmp .isNone (.var 9) (.cst .none)) (.lst .nil) (.lst (.cons (.var 9) .nil))))) .nil (.call s__5f_law_5f_item (.cons (.var 14) .nil))
    [.dat (par p), .dat (.int fee), .dat B, .dat (.int w), .lst R, .dat (.int b), .dat (.int s), .dat (.int t), .dat (.list ((seg p b t).map Item.enc)), .dat (endS p[t]?), s10, s11, s12, s13, .emp] =
    .ok (.own (.lst (((seg p b (t + 1)).map Item.text).map PyData.str))) [.dat (par p), .dat (.int fee), .dat B, .dat (.int w), .lst R, .dat (.int b), .dat (.int s), .dat (.int t), .dat (.list ((seg p b t).map Item.enc)), .dat (endS p[t]?), s10, s11, s12, s13, .emp] := by
  have hsl := seg_len p b t
  have hsl2 := seg_len p b (t + 1)
  have hse := seg_end (p := p) hbt
  obtain ⟨δ2, ⟨x, rfl⟩, e⟩ := compS_map (call := evF tbl (n + 1)) (own := [14]) (tg := .nm 14) (it := .seq (.bin .add (.var 8) (.ite (.cmp .isNone (.var 9) (.cst .none)) (.lst .nil) (.lst (.cons (.var 9) .nil))))) (elt := .call s__5f_law_5f_item (.cons (.var 14) .nil))
    (δ := [.dat (par p), .dat (.int fee), .dat B, .dat (.int w), .lst R, .dat (.int b), .dat (.int s), .dat (.int t), .dat (.list ((seg p b t).map Item.enc)), .dat (endS p[t]?), s10, s11, s12, s13, .emp])
    (δ1 := [.dat (par p), .dat (.int fee), .dat B, .dat (.int w), .lst R, .dat (.int b), .dat (.int s), .dat (.int t), .dat (.list ((seg p b t).map Item.enc)), .dat (endS p[t]?), s10, s11, s12, s13, .emp])
    (ds := (seg p b (t + 1)).map Item.enc) (g := textD) (I := fun δ => ∃ x, δ = [.dat (par p), .dat (.int fee), .dat B, .dat (.int w), .lst R, .dat (.int b), .dat (.int s), .dat (.int t), .dat (.list ((seg p b t).map Item.enc)), .dat (endS p[t]?), s10, s11, s12, s13, x]) (by
      rw [hse, List.map_append]
      have hsl3 : ((seg p b t).map Item.enc).length ≤ 100 := by rw [List.length_map]; omega
      have hm1 : ((seg p b t).map Item.enc).length + 1 ≤ 16777216 := by omega
      have hm2 : ((seg p b t).map Item.enc).length ≤ 16777216 := by omega
      generalize evF tbl (n + 1) = call
      generalize (seg p b t).map Item.enc = SG at hm1 hm2 ⊢
      cases p[t]? with
      | none => simp [endS, hm2]
      | some a => cases a <;> simp [endS, hm1, Item.enc]) (by
      show (true && okLen ((seg p b (t + 1)).map Item.enc).length) = true
      rw [Bool.true_and, okLen_iff, par_len]; omega) ⟨_, rfl⟩ (by
      rintro d hd δ ⟨x, rfl⟩
      obtain ⟨a, ha, rfl⟩ := List.mem_map.mp hd
      have hi := law_item_ok (seg_ok hok a ha) n
      refine ⟨[.dat (par p), .dat (.int fee), .dat B, .dat (.int w), .lst R, .dat (.int b), .dat (.int s), .dat (.int t), .dat (.list ((seg p b t).map Item.enc)), .dat (endS p[t]?), s10, s11, s12, s13, .dat a.enc], [.dat (par p), .dat (.int fee), .dat B, .dat (.int w), .lst R, .dat (.int b), .dat (.int s), .dat (.int t), .dat (.list ((seg p b t).map Item.enc)), .dat (endS p[t]?), s10, s11, s12, s13, .dat a.enc], .dat (textD a.enc), [.dat (par p), .dat (.int fee), .dat B, .dat (.int w), .lst R, .dat (.int b), .dat (.int s), .dat (.int t), .dat (.list ((seg p b t).map Item.enc)), .dat (endS p[t]?), s10, s11, s12, s13, .dat a.enc], rfl, ?_, rfl, _, rfl⟩
      generalize evF tbl (n + 1) = call at hi ⊢
      generalize (seg p b t).map Item.enc = SG
      simp [hi, textD])
  have hm : ((seg p b (t + 1)).map Item.enc).map textD = ((seg p b (t + 1)).map Item.text).map PyData.str := by
    rw [List.map_map, List.map_map]
    apply List.map_congr_left
    intro a _
    simp [textD]
  rw [hm] at e
  exact e
end
end Pl

set_option Elab.async false
set_option linter.all false
set_option maxRecDepth 100000
set_option maxHeartbeats 1000000
/-! The plain law of k88: the law's own report, its loop. -/
namespace Pl
open PySem Ev Core88 Wk
@[simp] theorem bi_list_par {l : List Item} : biV .list [.dat (par l)] = some (.own (.lst (l.map Item.enc))) := (rfl)
section
variable {call : Str → List Ev.Slot → FRes} {p : List Item} {fee w s : Int} {b t : Nat} {B : D} {R : List D} {s8 s9 s10 s11 s12 s13 : Ev.Slot}
theorem rs0 : evS call (nth repB 0) [.dat (par p), .dat (.int fee), .dat B, .dat (.int w), .lst R, .dat (.int b), .dat (.int s), .dat (.int t), s8, s9, s10, s11, s12, s13, .emp] =
    .next [.dat (par p), .dat (.int fee), .dat B, .dat (.int w), .lst R, .dat (.int b), .dat (.int s), .dat (.int t), .lst ((seg p b t).map Item.enc), s9, s10, s11, s12, s13, .emp] := by
  simp [nth, repB, f__law_report]
theorem rs1 (ht : t ≤ p.length) : evS call (nth repB 1) [.dat (par p), .dat (.int fee), .dat B, .dat (.int w), .lst R, .dat (.int b), .dat (.int s), .dat (.int t), s8, s9, s10, s11, s12, s13, .emp] =
    .next [.dat (par p), .dat (.int fee), .dat B, .dat (.int w), .lst R, .dat (.int b), .dat (.int s), .dat (.int t), s8, .dat (endS p[t]?), s10, s11, s12, s13, .emp] := by
  by_cases h : t < p.length
  · have ha : p[t]? = some p[t] := List.getElem?_eq_getElem h
    have h1 : (t : Int) < p.length := by omega
    rw [ha]
    simp [nth, repB, f__law_report, h1, h, endS]
  · have ha : p[t]? = none := List.getElem?_eq_none (by omega)
    have h1 : ¬((t : Int) < p.length) := by omega
    rw [ha]
    simp [nth, repB, f__law_report, h1, h, endS]
theorem rs2 (hl : p.length ≤ 100) : evS call (nth repB 2) [.dat (par p), .dat (.int fee), .dat B, .dat (.int w), .lst R, .dat (.int b), .dat (.int s), .dat (.int t), .lst ((seg p b t).map Item.enc), s9, s10, s11, s12, s13, .emp] =
    .next [.dat (par p), .dat (.int fee), .dat B, .dat (.int w), .lst R, .dat (.int b), .dat (.int s), .dat (.int t), .dat (.list ((seg p b t).map Item.enc)), s9, .dat (.int (wideL (seg p b t))), s11, s12, s13, .emp] := by
  obtain ⟨ns, h1, e⟩ := wide_comp (p := p) (fee := fee) (w := w) (s := s) (b := b) (t := t) (B := B) (R := R) (s8 := .emp) (s9 := s9) (s10 := s10) (s11 := s11) (s12 := s12) (s13 := s13) hl call
  have hsum := bi_sumI ns
  rw [h1] at hsum
  generalize (seg p b t).map Item.enc = SG at e ⊢
  generalize ns.map PyData.int = Z at e hsum
  simp [nth, repB, f__law_report, e, hsum]
theorem rs3 {W : Nat} : evS call (nth repB 3) [.dat (par p), .dat (.int fee), .dat B, .dat (.int w), .lst R, .dat (.int b), .dat (.int s), .dat (.int t), s8, .dat (endS p[t]?), .dat (.int W), s11, s12, s13, .emp] =
    .next [.dat (par p), .dat (.int fee), .dat B, .dat (.int w), .lst R, .dat (.int b), .dat (.int s), .dat (.int t), s8, .dat (endS p[t]?), .dat (.int ((W + hyp p[t]? : Nat) : Int)), s11, s12, s13, .emp] := by
  cases p[t]? with
  | none => simp [nth, repB, f__law_report, endS, hyp]
  | some a => cases a <;> simp [nth, repB, f__law_report, endS, hyp, Item.enc]
theorem rs4 {W : Int} (h : W ≤ w) {δ : Sts} (h3 : getS δ 3 = .dat (.int w)) (h10 : getS δ 10 = .dat (.int W)) : evS call (nth repB 4) δ = .next δ := by
  have h' : ¬(w < W) := by omega
  simp [nth, repB, f__law_report, h3, h10, h']
theorem rs4x {W : Int} (h : ¬(W ≤ w)) {δ : Sts} (h3 : getS δ 3 = .dat (.int w)) (h10 : getS δ 10 = .dat (.int W)) : evS call (nth repB 4) δ = .ret (.dat .none) δ := by
  have h' : w < W := by omega
  simp [nth, repB, f__law_report, h3, h10, h']
theorem rs5 : evS call (nth repB 5) [.dat (par p), .dat (.int fee), .dat B, .dat (.int w), .lst R, .dat (.int b), .dat (.int s), .dat (.int t), s8, .dat (endS p[t]?), .dat (.int (lw p b t)), s11, s12, s13, .emp] =
    .next [.dat (par p), .dat (.int fee), .dat B, .dat (.int w), .lst R, .dat (.int b), .dat (.int s), .dat (.int t), s8, .dat (endS p[t]?), .dat (.int (lw p b t)), .dat (.int (lk p b t w)), s12, s13, .emp] := by
  unfold lk
  generalize (lw p b t : Int) = W
  cases p[t]? with
  | none => simp [nth, repB, f__law_report, endS, freeO]
  | some a => cases a <;> simp [nth, repB, f__law_report, endS, freeO, Item.enc]
theorem rs6 (h1 : -1100000 ≤ lk p b t w ∧ lk p b t w ≤ 1100000) : evS call (nth repB 6) [.dat (par p), .dat (.int fee), .dat B, .dat (.int w), .lst R, .dat (.int b), .dat (.int s), .dat (.int t), s8, .dat (endS p[t]?), s10, .dat (.int (lk p b t w)), s12, s13, .emp] =
    .next [.dat (par p), .dat (.int fee), .dat B, .dat (.int w), .lst R, .dat (.int b), .dat (.int s), .dat (.int t), s8, .dat (endS p[t]?), s10, .dat (.int (lk p b t w)), .dat (.int (lc p fee b t w)), s13, .emp] := by
  have e0 : lc p fee b t w = lk p b t w * lk p b t w + fee + feeO p[t]? := by unfold lc; omega
  rw [e0]
  have e1 : -18446744073709551616 < lk p b t w := by omega
  have e2 : lk p b t w < 18446744073709551616 := by omega
  generalize lk p b t w = K at e1 e2 ⊢
  cases p[t]? with
  | none => simp [nth, repB, f__law_report, endS, feeO, e1, e2]
  | some a => cases a <;> simp [nth, repB, f__law_report, endS, feeO, Item.enc, e1, e2]
theorem rs9 : evS call (nth repB 9) [.dat (par p), .dat (.int fee), .dat B, .dat (.int w), .lst R, .dat (.int b), .dat (.int s), .dat (.int t), s8, s9, s10, s11, .dat (.int (lc p fee b t w)), s13, .emp] =
    .next [.dat (par p), .dat (.int fee), .dat B, .dat (.int w), .lst R, .dat (.int ((t + 1 : Nat) : Int)), .dat (.int (s + lc p fee b t w)), .dat (.int t), s8, s9, s10, s11, .dat (.int (lc p fee b t w)), s13, .emp] := by
  simp [nth, repB, f__law_report]
theorem rs8 (hl : p.length ≤ 100) (hok : ∀ a ∈ p, a.ok) (hf0 : 0 ≤ fee) (hf1 : fee ≤ 1000000) (hw1 : w ≤ 1000000) (hg : (lw p b t : Int) ≤ w) (hne : seg p b (t + 1) ≠ []) (hR : R.length < 16777216) :
    evS call (nth repB 8) [.dat (par p), .dat (.int fee), .dat B, .dat (.int w), .lst R, .dat (.int b), .dat (.int s), .dat (.int t), s8, s9, .dat (.int (lw p b t)), .dat (.int (lk p b t w)), .dat (.int (lc p fee b t w)), .lst (((seg p b (t + 1)).map Item.text).map PyData.str), .emp] =
    .next [.dat (par p), .dat (.int fee), .dat B, .dat (.int w), .lst (R ++ [.str (lineT p fee w b t)]), .dat (.int b), .dat (.int s), .dat (.int t), s8, s9, .dat (.int (lw p b t)), .dat (.int (lk p b t w)), .dat (.int (lc p fee b t w)), .lst (((seg p b (t + 1)).map Item.text).map PyData.str), .emp] := by
  obtain ⟨h1, h2, h3, h4, h5⟩ := line_small hl hok hf0 hf1 hw1 hg
  have hsl := seg_len p b (t + 1)
  rw [← line_same hne]
  have b1 := bi_strN (i := (lw p b t : Int)) (by omega) (by omega)
  have b2 := bi_strN (i := lk p b t w) (by omega) (by omega)
  have b3 := bi_strN (i := lc p fee b t w) (by omega) (by omega)
  have t1 := num_txs (i := (lw p b t : Int)) (by omega) (by omega)
  have t2 := num_txs (i := lk p b t w) (by omega) (by omega)
  have t3 := num_txs (i := lc p fee b t w) (by omega) (by omega)
  have tc : Txs 1 s__3a_ := ⟨by decide, by decide⟩
  have l3 := t3.len
  have lc' := tc.len
  have m1 : (strI (lc p fee b t w)).length + s__3a_.length ≤ 16777216 := by omega
  have hall : ∀ y ∈ [strI (lw p b t), strI (lk p b t w), strI (lc p fee b t w) ++ s__3a_] ++ (seg p b (t + 1)).map Item.text, Txs 100 y := by
    intro y hy
    rcases List.mem_append.mp hy with hy | hy
    · simp at hy
      rcases hy with rfl | rfl | rfl
      · exact t1.mono (by decide)
      · exact t2.mono (by decide)
      · exact (t3.app tc).mono (by decide)
    · obtain ⟨a, ha, rfl⟩ := List.mem_map.mp hy
      exact text_txs (seg_ok hok a ha)
  have hmap : ([strI (lw p b t), strI (lk p b t w), strI (lc p fee b t w) ++ s__3a_] ++ (seg p b (t + 1)).map Item.text).map PyData.str = [PyData.str (strI (lw p b t)), .str (strI (lk p b t w)), .str (strI (lc p fee b t w) ++ s__3a_)] ++ ((seg p b (t + 1)).map Item.text).map PyData.str := by
    rw [List.map_append]; rfl
  have hJ := joinV_txs (k := 100) (s := s__20_) (x := .lst ([PyData.str (strI (lw p b t)), .str (strI (lk p b t w)), .str (strI (lc p fee b t w) ++ s__3a_)] ++ ((seg p b (t + 1)).map Item.text).map PyData.str)) bl_txs hall (by rw [hmap]; rfl) (by simp; omega)
  have hwl : (((seg p b (t + 1)).map Item.text).map PyData.str).length ≤ 100 := by rw [List.length_map, List.length_map]; omega
  have m2 : 3 + (((seg p b (t + 1)).map Item.text).map PyData.str).length ≤ 16777216 := by omega
  generalize PySem.Txt.join s__20_ ([strI (lw p b t), strI (lk p b t w), strI (lc p fee b t w) ++ s__3a_] ++ (seg p b (t + 1)).map Item.text) = J at hJ ⊢
  generalize ((seg p b (t + 1)).map Item.text).map PyData.str = WW at hJ m2 ⊢
  simp only [List.cons_append, List.nil_append] at hJ
  simp [nth, repB, f__law_report, b1, b2, b3, m1, m2, hJ, hR]
end
section
variable {p : List Item} {fee w s : Int} {b t : Nat} {B : D} {R : List D} {s8 s9 s10 s11 s12 s13 : Ev.Slot}
theorem rs7 (hl : p.length ≤ 100) (hok : ∀ a ∈ p, a.ok) (hbt : b ≤ t) (n : Nat) : evS (evF tbl (n + 1)) (nth repB 7) [.dat (par p), .dat (.int fee), .dat B, .dat (.int w), .lst R, .dat (.int b), .dat (.int s), .dat (.int t), .dat (.list ((seg p b t).map Item.enc)), .dat (endS p[t]?), s10, s11, s12, s13, .emp] =
    .next [.dat (par p), .dat (.int fee), .dat B, .dat (.int w), .lst R, .dat (.int b), .dat (.int s), .dat (.int t), .dat (.list ((seg p b t).map Item.enc)), .dat (endS p[t]?), s10, s11, s12, .lst (((seg p b (t + 1)).map Item.text).map PyData.str), .emp] := by
  have e := words_comp (p := p) (fee := fee) (w := w) (s := s) (b := b) (t := t) (B := B) (R := R) (s10 := s10) (s11 := s11) (s12 := s12) (s13 := s13) hl hok hbt n
  generalize evF tbl (n + 1) = call at e ⊢
  generalize ((seg p b (t + 1)).map Item.text).map PyData.str = WW at e ⊢
  generalize (seg p b t).map Item.enc = SG at e ⊢
  generalize endS p[t]? = EE at e ⊢
  simp [nth, repB, f__law_report, e]
theorem repB_eq : repB = .cons (nth repB 0) (.cons (nth repB 1) (.cons (nth repB 2) (.cons (nth repB 3) (.cons (nth repB 4) (.cons (nth repB 5) (.cons (nth repB 6) (.cons (nth repB 7) (.cons (nth repB 8) (.cons (nth repB 9) .nil))))))))) := rfl
theorem rep_go (hl : p.length ≤ 100) (hok : ∀ a ∈ p, a.ok) (hf0 : 0 ≤ fee) (hf1 : fee ≤ 1000000) (hw0 : 0 ≤ w) (hw1 : w ≤ 1000000) (hbt : b ≤ t) (ht : t ≤ p.length) (hne : seg p b (t + 1) ≠ []) (hg : (lw p b t : Int) ≤ w) (hR : R.length < 16777216) (n : Nat) :
    ∃ s8' s9' s10' s11' s12' s13', evSs (evF tbl (n + 1)) repB [.dat (par p), .dat (.int fee), .dat B, .dat (.int w), .lst R, .dat (.int b), .dat (.int s), .dat (.int t), s8, s9, s10, s11, s12, s13, .emp] =
      .next [.dat (par p), .dat (.int fee), .dat B, .dat (.int w), .lst (R ++ [.str (lineT p fee w b t)]), .dat (.int ((t + 1 : Nat) : Int)), .dat (.int (s + lc p fee b t w)), .dat (.int t), s8', s9', s10', s11', s12', s13', .emp] := by
  refine ⟨.dat (.list ((seg p b t).map Item.enc)), .dat (endS p[t]?), .dat (.int (lw p b t)), .dat (.int (lk p b t w)), .dat (.int (lc p fee b t w)), .lst (((seg p b (t + 1)).map Item.text).map PyData.str), ?_⟩
  rw [repB_eq, nx rs0, nx (rs1 ht), nx (rs2 hl), nx rs3]
  have e : wideL (seg p b t) + hyp p[t]? = lw p b t := rfl
  rw [e, nx (rs4 hg rfl rfl), nx rs5, nx (rs6 (lk_small (by omega) hok hw0 hw1)), nx (rs7 hl hok hbt n), nx (rs8 hl hok hf0 hf1 hw1 hg hne hR), nx rs9, ss_nil]
theorem rep_out (hl : p.length ≤ 100) (ht : t ≤ p.length) (hg : ¬((lw p b t : Int) ≤ w)) (n : Nat) :
    ∃ δ, evSs (evF tbl (n + 1)) repB [.dat (par p), .dat (.int fee), .dat B, .dat (.int w), .lst R, .dat (.int b), .dat (.int s), .dat (.int t), s8, s9, s10, s11, s12, s13, .emp] = .ret (.dat .none) (.dat (par p) :: .dat (.int fee) :: .dat B :: .dat (.int w) :: δ) := by
  refine ⟨[.lst R, .dat (.int b), .dat (.int s), .dat (.int t), .dat (.list ((seg p b t).map Item.enc)), .dat (endS p[t]?), .dat (.int (lw p b t)), s11, s12, s13, .emp], ?_⟩
  rw [repB_eq, nx rs0, nx (rs1 ht), nx (rs2 hl), nx rs3]
  have e : wideL (seg p b t) + hyp p[t]? = lw p b t := rfl
  rw [e]
  exact nx_ret (rs4x hg rfl rfl)
end
end Pl

set_option Elab.async false
set_option linter.all false
set_option maxRecDepth 100000
set_option maxHeartbeats 1000000
/-! The plain law of k88: the law's own report, whole. -/
namespace Pl
open PySem Ev Core88 Wk
def Fit (p : List Item) (b : Nat) (bs : List Nat) : Prop := ∀ q ∈ endsF b bs, q.1 ≤ q.2 ∧ q.2 ≤ p.length ∧ q.1 < p.length
theorem seg_ne {p : List Item} {b t : Nat} (hbt : b ≤ t) (hb : b < p.length) : seg p b (t + 1) ≠ [] := by
  intro e
  have := congrArg List.length e
  unfold seg at this
  rw [List.length_drop, List.length_take] at this
  simp at this
  omega
def goesF (p : List Item) (w : Int) (b : Nat) (bs : List Nat) : Bool := (endsF b bs).all fun q => decide ((lw p q.1 q.2 : Int) ≤ w)
section
variable {p : List Item} {fee w : Int} {B : D}
theorem rep_loop (hl : p.length ≤ 100) (hok : ∀ a ∈ p, a.ok) (hf0 : 0 ≤ fee) (hf1 : fee ≤ 1000000) (hw0 : 0 ≤ w) (hw1 : w ≤ 1000000) (n : Nat) : ∀ (bs : List Nat) (b : Nat) (R : List D) (s : Int) (s7 s8 s9 s10 s11 s12 s13 : Ev.Slot), Fit p b bs → R.length + bs.length ≤ 10000 →
    (goesF p w b bs = true → ∃ b' s7' s8' s9' s10' s11' s12' s13', forS (evF tbl (n + 1)) (.nm 7) repB (bs.map intN) [.dat (par p), .dat (.int fee), .dat B, .dat (.int w), .lst R, .dat (.int b), .dat (.int s), s7, s8, s9, s10, s11, s12, s13, .emp] =
      .next [.dat (par p), .dat (.int fee), .dat B, .dat (.int w), .lst (R ++ ((endsF b bs).map fun q => lineT p fee w q.1 q.2).map PyData.str), b', .dat (.int (s + ((endsF b bs).map fun q => lc p fee q.1 q.2 w).sum)), s7', s8', s9', s10', s11', s12', s13', .emp]) ∧
    (goesF p w b bs = false → ∃ δ, forS (evF tbl (n + 1)) (.nm 7) repB (bs.map intN) [.dat (par p), .dat (.int fee), .dat B, .dat (.int w), .lst R, .dat (.int b), .dat (.int s), s7, s8, s9, s10, s11, s12, s13, .emp] =
      .ret (.dat .none) (.dat (par p) :: .dat (.int fee) :: .dat B :: .dat (.int w) :: δ))
  | [], b, R, s, s7, s8, s9, s10, s11, s12, s13, _, _ => ⟨fun _ => ⟨_, s7, s8, s9, s10, s11, s12, s13, by simp [endsF]; rfl⟩, fun h => by simp [goesF, endsF] at h⟩
  | t :: bs, b, R, s, s7, s8, s9, s10, s11, s12, s13, hF, hR => by
    have hR : R.length + (bs.length + 1) ≤ 10000 := hR
    obtain ⟨h1, h2, h3⟩ := hF (b, t) (show (b, t) ∈ (b, t) :: endsF (t + 1) bs from List.mem_cons_self)
    simp only at h1 h2 h3
    have hF' : Fit p (t + 1) bs := fun q hq => hF q (show q ∈ (b, t) :: endsF (t + 1) bs from List.mem_cons_of_mem _ hq)
    have hgo : goesF p w b (t :: bs) = (decide ((lw p b t : Int) ≤ w) && goesF p w (t + 1) bs) := rfl
    by_cases hg : (lw p b t : Int) ≤ w
    · obtain ⟨s8', s9', s10', s11', s12', s13', e⟩ := rep_go (p := p) (fee := fee) (w := w) (s := s) (b := b) (t := t) (B := B) (R := R) (s8 := s8) (s9 := s9) (s10 := s10) (s11 := s11) (s12 := s12) (s13 := s13) hl hok hf0 hf1 hw0 hw1 h1 h2 (seg_ne h1 h3) hg (by omega) n
      obtain ⟨i1, i2⟩ := rep_loop hl hok hf0 hf1 hw0 hw1 n bs (t + 1) (R ++ [.str (lineT p fee w b t)]) (s + lc p fee b t w) (.dat (.int t)) s8' s9' s10' s11' s12' s13' hF' (by simp; omega)
      rw [hgo, decide_eq_true hg, Bool.true_and]
      refine ⟨fun hh => ?_, fun hh => ?_⟩
      · obtain ⟨b', t7, t8, t9, t10, t11, t12, t13, e2⟩ := i1 hh
        refine ⟨b', t7, t8, t9, t10, t11, t12, t13, forS_go rfl e ?_⟩
        rw [e2]
        have ee : endsF b (t :: bs) = (b, t) :: endsF (t + 1) bs := rfl
        rw [ee]
        simp only [List.map_cons, List.sum_cons, List.append_assoc, List.cons_append, List.nil_append, Int.add_assoc]
      · obtain ⟨δ, e2⟩ := i2 hh
        exact ⟨δ, forS_go rfl e e2⟩
    · obtain ⟨δ, e⟩ := rep_out (p := p) (fee := fee) (w := w) (s := s) (b := b) (t := t) (B := B) (R := R) (s8 := s8) (s9 := s9) (s10 := s10) (s11 := s11) (s12 := s12) (s13 := s13) hl h2 hg n
      rw [hgo, decide_eq_false hg, Bool.false_and]
      exact ⟨fun hh => (by cases hh), fun _ => ⟨δ, forS_out rfl e⟩⟩
theorem law_report_ok {bs : List Nat} (hl : p.length ≤ 100) (hok : ∀ a ∈ p, a.ok) (hf0 : 0 ≤ fee) (hf1 : fee ≤ 1000000) (hw0 : 0 ≤ w) (hw1 : w ≤ 1000000) (hF : Fit p 0 bs) (hb : bs.length ≤ 1000) (n : Nat) :
    evF tbl (n + 2) s__5f_law_5f_report [.dat (par p), .dat (.int fee), .dat (brk bs), .dat (.int w)] = .ret (.dat (repD p fee w bs)) [.dat (par p), .dat (.int fee), .dat (brk bs), .dat (.int w)] := by
  obtain ⟨g1, g2⟩ := rep_loop (p := p) (fee := fee) (w := w) (B := brk bs) hl hok hf0 hf1 hw0 hw1 n bs 0 [] 0 .emp .emp .emp .emp .emp .emp .emp hF (by simp; omega)
  have hgg : goesF p w 0 bs = goesB p w bs := rfl
  rw [hgg] at g1 g2
  unfold repD
  cases hg : goesB p w bs with
  | false =>
    obtain ⟨δ, e⟩ := g2 hg
    refine (run_of (F := f__law_report) (fl := .ret (.dat .none) (.dat (par p) :: .dat (.int fee) :: .dat (brk bs) :: .dat (.int w) :: δ)) rfl rfl (by simp [f__law_report]) ?_).trans rfl
    simp only [repB, f__law_report] at e
    unfold brk at e ⊢
    generalize evF tbl (n + 1) = call at e ⊢
    generalize bs.map intN = BS at e ⊢
    simp [f__law_report]
    simp at e
    simp [e]
  | true =>
    obtain ⟨b', s7, s8, s9, s10, s11, s12, s13, e⟩ := g1 hg
    have hgo : ∀ q ∈ endsF 0 bs, (lw p q.1 q.2 : Int) ≤ w := fun q hq => of_decide_eq_true (List.all_eq_true.mp hg q hq)
    have hsm : ∀ q ∈ endsF 0 bs, 0 ≤ lc p fee q.1 q.2 w ∧ lc p fee q.1 q.2 w ≤ 2000000000000 := fun q hq => by
      obtain ⟨_, _, _, h4, h5⟩ := line_small (p := p) (b := q.1) (t := q.2) hl hok hf0 hf1 hw1 (hgo q hq)
      exact ⟨h4, h5⟩
    obtain ⟨hs0, hs1⟩ := sum_small hsm
    rw [ends_len] at hs1
    have hsc : ((endsF 0 bs).map fun q => lc p fee q.1 q.2 w).sum = sumC p fee w bs := rfl
    rw [hsc] at hs0 hs1 e
    rw [Int.zero_add] at e
    have hn1 := bi_strN (i := (bs.length : Int)) (by omega) (by omega)
    have hn2 := bi_strN (i := sumC p fee w bs) hs0 (by omega)
    have t1 := num_txs (i := (bs.length : Int)) (by omega) (by omega)
    have t2 := num_txs (i := sumC p fee w bs) hs0 (by omega)
    have l1 := all_txs.len
    have l2 := t1.len
    have l3 := (all_txs.app t1).len
    have l4 := bl_txs.len
    have l5 := ((all_txs.app t1).app bl_txs).len
    have l6 := t2.len
    have m1 : s_all_20_.length + (strI (bs.length : Int)).length ≤ 16777216 := by omega
    have m2 : (s_all_20_ ++ strI (bs.length : Int)).length + s__20_.length ≤ 16777216 := by omega
    have m3 : (s_all_20_ ++ strI (bs.length : Int) ++ s__20_).length + (strI (sumC p fee w bs)).length ≤ 16777216 := by omega
    have hrl : (((endsF 0 bs).map fun q => lineT p fee w q.1 q.2).map PyData.str).length + 1 ≤ 16777216 := by rw [List.length_map, List.length_map, ends_len]; omega
    have hbl : ((bs.map intN).length : Int) = bs.length := by rw [List.length_map]
    have hrep : (repT p fee w bs).map PyData.str = ((endsF 0 bs).map fun q => lineT p fee w q.1 q.2).map PyData.str ++ [.str (allT bs.length (sumC p fee w bs))] := by
      unfold repT; rw [List.map_append]; rfl
    rw [if_pos rfl, hrep]
    refine (run_of (F := f__law_report) (fl := .ret (.dat (.tuple (((endsF 0 bs).map fun q => lineT p fee w q.1 q.2).map PyData.str ++ [.str (allT bs.length (sumC p fee w bs))]))) [.dat (par p), .dat (.int fee), .dat (brk bs), .dat (.int w), .lst (((endsF 0 bs).map fun q => lineT p fee w q.1 q.2).map PyData.str), b', .dat (.int (sumC p fee w bs)), s7, s8, s9, s10, s11, s12, s13, .emp]) rfl rfl (by simp [f__law_report]) ?_).trans rfl
    simp only [repB, f__law_report, List.nil_append] at e
    unfold allT
    unfold brk at e ⊢
    generalize evF tbl (n + 1) = call at e ⊢
    generalize ((endsF 0 bs).map fun q => lineT p fee w q.1 q.2).map PyData.str = Y at e hrl ⊢
    generalize sumC p fee w bs = SS at e hn2 m3 ⊢
    generalize bs.map intN = BS at e hbl ⊢
    simp at e
    simp [f__law_report]
    simp [e, hbl, hn1, hn2, m1, m2, m3, hrl]
end
/-! ### breakings that fit -/
theorem place_lt {p : List Item} (hp : Good p) {t : Nat} (h : t ∈ places p) (ht : t < p.length) : t + 1 < p.length := by
  unfold places at h
  rcases List.mem_append.mp h with h | h
  · obtain ⟨_, a, h2, h3⟩ := enumF_mem.mp h
    rw [Nat.sub_zero] at h2
    obtain ⟨k, r, e⟩ := hp.lst
    by_cases hh : t + 1 < p.length
    · exact hh
    · have ht2 : t = r.length := by rw [e] at ht hh; simp at ht hh; omega
      subst ht2
      rw [e] at h2
      rw [List.getElem?_append_right (Nat.le_refl _)] at h2
      simp at h2
      subst h2
      simp [isBox] at h3
  · simp at h; omega
theorem fit_of {p : List Item} (hp : Good p) : ∀ {bs : List Nat} {b : Nat}, b < p.length → (∀ q ∈ endsF b bs, q.1 ≤ q.2 ∧ q.2 ∈ places p) → Fit p b bs
  | [], b, _, _ => fun q h => by cases h
  | t :: bs, b, hb, h => fun q hq => by
    have h0 := h (b, t) (show (b, t) ∈ (b, t) :: endsF (t + 1) bs from List.mem_cons_self)
    simp only at h0
    rcases List.mem_cons.mp (show q ∈ (b, t) :: endsF (t + 1) bs from hq) with rfl | hq
    · exact ⟨h0.1, places_le h0.2, hb⟩
    · cases bs with
      | nil => cases hq
      | cons t' r =>
        have h1 := h (t + 1, t') (show (t + 1, t') ∈ (b, t) :: (t + 1, t') :: endsF (t' + 1) r from List.mem_cons_of_mem _ List.mem_cons_self)
        simp only at h1
        have h2 := places_le h1.2
        refine fit_of hp (b := t + 1) (place_lt hp h0.2 (by omega)) (fun q hq => h q (show q ∈ (b, t) :: endsF (t + 1) (t' :: r) from List.mem_cons_of_mem _ hq)) q hq
theorem Good.pos {p : List Item} (hp : Good p) : 0 < p.length := by
  obtain ⟨k, r, e⟩ := hp.fst
  rw [e]; simp
theorem Row.fit {p : List Item} {w : Int} {bs : List Nat} (hp : Good p) (h : Row p w bs) : Fit p 0 bs := fit_of hp hp.pos fun q hq => ⟨(h.ends q hq).1, (h.ends q hq).2.1⟩
theorem up_ends : ∀ {bs : List Nat} {b : Nat}, bs.Pairwise (· < ·) → (∀ t ∈ bs, b ≤ t) → ∀ q ∈ endsF b bs, q.1 ≤ q.2
  | [], b, _, _, q, h => by cases h
  | t :: bs, b, h, hb, q, hq => by
    obtain ⟨h1, h2⟩ := List.pairwise_cons.mp h
    rcases List.mem_cons.mp (show q ∈ (b, t) :: endsF (t + 1) bs from hq) with rfl | hq
    · exact hb t List.mem_cons_self
    · exact up_ends h2 (fun t' ht' => h1 t' ht') q hq
theorem Valid.fit {p : List Item} {bs : List Nat} (hp : Good p) (h : Valid p bs) : Fit p 0 bs := fit_of hp hp.pos fun q hq => ⟨up_ends h.up (fun _ _ => Nat.zero_le _) q hq, h.pl _ (ends_mem hq)⟩
theorem Valid.le {p : List Item} {bs : List Nat} (h : Valid p bs) : ∀ q ∈ endsF 0 bs, q.2 ≤ p.length := fun q hq => places_le (h.pl _ (ends_mem hq))
end Pl

set_option Elab.async false
set_option linter.all false
set_option maxRecDepth 100000
set_option maxHeartbeats 1000000
/-! The plain law of k88: drawn breakings, odd things. -/
namespace Pl
open PySem Ev Core88 Wk
@[simp] theorem enumK_par {p : List Item} {δ : Sts} : enumK (par p) δ = .ok (enumL 0 (p.map Item.enc)) δ := (rfl)
def dbB : Ss := match f__law_breaking.body with
  | .cons _ (.cons (.for _ _ b) _) => b
  | _ => .nil
def nbox (a : Item) : Bool := !isBox a
theorem brk_loop {p : List Item} (n : Nat) : ∀ (l : List Item) (k : Nat) (L : List D) (F : List Nat) (s3 s4 : Ev.Slot), IsHand L → F.length + l.length ≤ 10000 →
    ∃ L' G s3' s4', IsHand L' ∧ (∀ t ∈ G, t ∈ enumF nbox k l) ∧ (∀ t ∈ enumF isStop k l, t ∈ G) ∧ G.Pairwise (· < ·) ∧ G.length ≤ l.length ∧
      forS (evF tbl (n + 1)) (.tup [3, 4]) dbB (enumL k (l.map Item.enc)) [.lst L, .dat (par p), .lst (F.map intN), s3, s4] = .next [.lst L', .dat (par p), .lst ((F ++ G).map intN), s3', s4']
  | [], k, L, F, s3, s4, hL, _ => ⟨L, [], s3, s4, hL, (fun _ h => by cases h), (fun _ h => by cases h), List.Pairwise.nil, Nat.le_refl _, by rw [List.append_nil]; rfl⟩
  | a :: l, k, L, F, s3, s4, hL, hn => by
    have hn : F.length + (l.length + 1) ≤ 10000 := hn
    have hF : F.length < 16777216 := by omega
    have hFm : (F.map intN).length < 16777216 := by rw [List.length_map]; omega
    -- this one is put
    have put : ∀ L1, IsHand L1 → nbox a = true → evSs (evF tbl (n + 1)) dbB [.lst L, .dat (par p), .lst (F.map intN), .dat (.int k), .dat a.enc] = .next [.lst L1, .dat (par p), .lst (F.map intN ++ [.int k]), .dat (.int k), .dat a.enc] →
        ∃ L' G s3' s4', IsHand L' ∧ (∀ t ∈ G, t ∈ enumF nbox k (a :: l)) ∧ (∀ t ∈ enumF isStop k (a :: l), t ∈ G) ∧ G.Pairwise (· < ·) ∧ G.length ≤ (a :: l).length ∧
          forS (evF tbl (n + 1)) (.tup [3, 4]) dbB (enumL k ((a :: l).map Item.enc)) [.lst L, .dat (par p), .lst (F.map intN), s3, s4] = .next [.lst L', .dat (par p), .lst ((F ++ G).map intN), s3', s4'] := fun L1 h1 hb he => by
      obtain ⟨L', G, s3', s4', g1, g2, g3, g4, g5, g6⟩ := brk_loop (p := p) n l (k + 1) L1 (F ++ [k]) (.dat (.int k)) (.dat a.enc) h1 (by simp; omega)
      have ee : enumF nbox k (a :: l) = k :: enumF nbox (k + 1) l := by
        show (if nbox a = true then _ else _) = _
        rw [if_pos hb]
      refine ⟨L', k :: G, s3', s4', g1, fun t ht => ?_, fun t ht => ?_, List.pairwise_cons.mpr ⟨fun t ht => ?_, g4⟩, by simp; omega, forS_go rfl he ?_⟩
      · rw [ee]
        rcases List.mem_cons.mp ht with rfl | ht
        · exact List.mem_cons_self
        · exact List.mem_cons_of_mem _ (g2 t ht)
      · have ht : t ∈ (if isStop a = true then k :: enumF isStop (k + 1) l else enumF isStop (k + 1) l) := ht
        split at ht
        · rcases List.mem_cons.mp ht with rfl | ht
          · exact List.mem_cons_self
          · exact List.mem_cons_of_mem _ (g3 t ht)
        · exact List.mem_cons_of_mem _ (g3 t ht)
      · have := (enumF_mem.mp (g2 t ht)).1
        omega
      · have e2 : F.map intN ++ [.int (k : Int)] = (F ++ [k]).map intN := by rw [List.map_append]; rfl
        have e3 : F ++ k :: G = F ++ [k] ++ G := by simp
        rw [e2, e3]
        exact g6
    -- this one is let be
    have leave : ∀ L1, IsHand L1 → isStop a = false → evSs (evF tbl (n + 1)) dbB [.lst L, .dat (par p), .lst (F.map intN), .dat (.int k), .dat a.enc] = .next [.lst L1, .dat (par p), .lst (F.map intN), .dat (.int k), .dat a.enc] →
        ∃ L' G s3' s4', IsHand L' ∧ (∀ t ∈ G, t ∈ enumF nbox k (a :: l)) ∧ (∀ t ∈ enumF isStop k (a :: l), t ∈ G) ∧ G.Pairwise (· < ·) ∧ G.length ≤ (a :: l).length ∧
          forS (evF tbl (n + 1)) (.tup [3, 4]) dbB (enumL k ((a :: l).map Item.enc)) [.lst L, .dat (par p), .lst (F.map intN), s3, s4] = .next [.lst L', .dat (par p), .lst ((F ++ G).map intN), s3', s4'] := fun L1 h1 hb he => by
      obtain ⟨L', G, s3', s4', g1, g2, g3, g4, g5, g6⟩ := brk_loop (p := p) n l (k + 1) L1 F (.dat (.int k)) (.dat a.enc) h1 (by omega)
      refine ⟨L', G, s3', s4', g1, fun t ht => ?_, fun t ht => ?_, g4, by simp; omega, forS_go rfl he g6⟩
      · show t ∈ (if nbox a = true then k :: enumF nbox (k + 1) l else enumF nbox (k + 1) l)
        split
        · exact List.mem_cons_of_mem _ (g2 t ht)
        · exact g2 t ht
      · have ht : t ∈ (if isStop a = true then k :: enumF isStop (k + 1) l else enumF isStop (k + 1) l) := ht
        rw [if_neg (by rw [hb]; decide)] at ht
        exact g3 t ht
    cases a with
    | box m =>
      refine leave L hL rfl ?_
      generalize evF tbl (n + 1) = call
      generalize F.map intN = FI
      simp [dbB, f__law_breaking, Item.enc, inV_two]
    | stop =>
      refine put L hL rfl ?_
      generalize evF tbl (n + 1) = call
      generalize F.map intN = FI at hFm ⊢
      simp [dbB, f__law_breaking, Item.enc, hFm]
    | gap m =>
      obtain ⟨d, L1, h1, h2, h3⟩ := draw_ok hL (m := 2) (by decide) (by decide) n
      by_cases h0 : d = 0
      · refine put L1 h2 rfl ?_
        subst h0
        generalize evF tbl (n + 1) = call at h3 ⊢
        generalize F.map intN = FI at hFm ⊢
        simp at h3
        simp [dbB, f__law_breaking, Item.enc, inV_two, h3, hFm]
      · refine leave L1 h2 rfl ?_
        have h0' : ¬((d : Int) = 0) := by omega
        generalize evF tbl (n + 1) = call at h3 ⊢
        generalize F.map intN = FI at hFm ⊢
        simp [dbB, f__law_breaking, Item.enc, inV_two, h3, h0]
    | cut m f =>
      obtain ⟨d, L1, h1, h2, h3⟩ := draw_ok hL (m := 2) (by decide) (by decide) n
      by_cases h0 : d = 0
      · refine put L1 h2 rfl ?_
        subst h0
        generalize evF tbl (n + 1) = call at h3 ⊢
        generalize F.map intN = FI at hFm ⊢
        simp at h3
        simp [dbB, f__law_breaking, Item.enc, inV_two, h3, hFm]
      · refine leave L1 h2 rfl ?_
        have h0' : ¬((d : Int) = 0) := by omega
        generalize evF tbl (n + 1) = call at h3 ⊢
        generalize F.map intN = FI at hFm ⊢
        simp [dbB, f__law_breaking, Item.enc, inV_two, h3, h0]
theorem law_breaking_ok {p : List Item} {L : List D} (hL : IsHand L) (hl : p.length ≤ 90) (n : Nat) : ∃ L' bs, IsHand L' ∧ Valid p bs ∧ evF tbl (n + 2) s__5f_law_5f_breaking [.lst L, .dat (par p)] = .ret (.dat (brk bs)) [.lst L', .dat (par p)] := by
  obtain ⟨L', G, s3, s4, g1, g2, g3, g4, g5, g6⟩ := brk_loop (p := p) n p 0 L [] .emp .emp hL (by simp; omega)
  have hG : ∀ t ∈ G, t < p.length := fun t ht => by
    obtain ⟨_, a, h2, _⟩ := enumF_mem.mp (g2 t ht)
    have := (List.getElem?_eq_some_iff.mp h2).1
    omega
  refine ⟨L', G ++ [p.length], g1, ⟨List.getLast?_concat, List.pairwise_append.mpr ⟨g4, List.pairwise_singleton _ _, fun t ht x hx => ?_⟩, fun t ht => ?_, fun t ht => List.mem_append_left _ (g3 t ht), by simp; omega⟩, ?_⟩
  · simp at hx; subst hx; exact hG t ht
  · unfold places
    rcases List.mem_append.mp ht with ht | ht
    · exact List.mem_append_left _ (g2 t ht)
    · exact List.mem_append_right _ ht
  · have hb : brk (G ++ [p.length]) = .tuple (G.map intN ++ [.int p.length]) := by unfold brk; rw [List.map_append]; rfl
    have hgl : (G.map intN).length + 1 ≤ 16777216 := by rw [List.length_map]; omega
    rw [hb]
    refine (run_of (F := f__law_breaking) (fl := .ret (.dat (.tuple (G.map intN ++ [.int p.length]))) [.lst L', .dat (par p), .lst (G.map intN), s3, s4]) rfl rfl (by simp [f__law_breaking]) ?_).trans rfl
    simp only [dbB, f__law_breaking, List.map_nil, List.nil_append] at g6
    generalize evF tbl (n + 1) = call at g6 ⊢
    generalize G.map intN = GI at g6 hgl ⊢
    simp [f__law_breaking, g6, hgl]
/-! ### odd things -/
theorem odd_gap : IsPar (.tuple [.tuple [.str s_gap, .int 1]]) false := fun n => by
  have hz := is_sized_par (n + 2) [.gap 1] 1 40
  have hi := is_item_ok n (.gap 1) (show 1 ≤ 1000 by decide)
  obtain ⟨δ2, ⟨s, rfl⟩, e⟩ := compS_map (call := evF tbl (n + 3)) (own := [1]) (tg := .nm 1) (it := .seq (.var 0)) (elt := .call s_is_5f_item (.cons (.var 1) .nil)) (δ := [.dat (par [.gap 1]), .emp, .emp]) (δ1 := [.dat (par [.gap 1]), .emp, .emp]) (ds := [Item.enc (.gap 1)]) (g := fun _ => .bool true) (I := fun δ => ∃ s, δ = [.dat (par [.gap 1]), s, .emp]) rfl rfl ⟨_, rfl⟩ (by
    rintro d hd δ ⟨s, rfl⟩
    simp at hd
    subst hd
    refine ⟨[.dat (par [.gap 1]), .dat (Item.enc (.gap 1)), .emp], [.dat (par [.gap 1]), .dat (Item.enc (.gap 1)), .emp], .dat (.bool true), [.dat (par [.gap 1]), .dat (Item.enc (.gap 1)), .emp], rfl, ?_, rfl, _, rfl⟩
    generalize evF tbl (n + 3) = call at hi ⊢
    simp [hi])
  have e : compS (evF tbl (n + 3)) [1] (.nm 1) (.seq (.var 0)) .nil (.call s_is_5f_item (.cons (.var 1) .nil)) [.dat (par [.gap 1]), .emp, .emp] = .ok (.own (.lst [.bool true])) [.dat (par [.gap 1]), .emp, .emp] := e
  have hall : biV .all [.lst [PyData.bool true]] = some (.dat (.bool true)) := rfl
  have hpar : PyData.tuple [.tuple [.str s_gap, .int 1]] = par [.gap 1] := rfl
  rw [hpar]
  refine (run_of (F := f_is_paragraph) (fl := .ret (.dat (.bool false)) [.dat (par [.gap 1]), .emp, .emp]) rfl rfl (by simp [f_is_paragraph]) ?_).trans rfl
  generalize evF tbl (n + 3) = call at hz e ⊢
  simp at hz
  simp [f_is_paragraph, hz, e, hall, Item.enc]
theorem num_neg : IsNum (.int (-1)) false := num_int (-1)
theorem fee_neg : IsFee (.int (-1)) false := fee_off (by decide)
theorem fee_big : IsFee (.int 1000001) false := fee_off (by decide)
/-! ### the same twice -/
theorem strs_ok {k : Nat} {ys : List Str} (h : ∀ y ∈ ys, Txs k y) : Lay 1 (.tuple (ys.map PyData.str)) := Lay.tup (k := 0) fun d hd => by
  obtain ⟨y, hy, rfl⟩ := List.mem_map.mp hd
  exact Lay.str (h y hy).ok
theorem strs_eqv (xs ys : List Str) : PyData.eqv (.tuple (xs.map PyData.str)) (.tuple (ys.map PyData.str)) = decide (xs = ys) := by
  show PyData.eqvAll (xs.map PyData.str) (ys.map PyData.str) = _
  exact eqv_map (fun a b => by simp only [PyData.eqv]; rfl) xs ys
theorem ne_self {k : Nat} {ys : List Str} (h : ∀ y ∈ ys, Txs k y) : cmpV .ne (.dat (.tuple (ys.map PyData.str))) (.dat (.tuple (ys.map PyData.str))) = some false := by
  have h1 := ne_of_eq (eq_of_lay (strs_ok h) (strs_ok h) (by decide) (by decide))
  rw [strs_eqv, decide_eq_true rfl] at h1
  exact h1
theorem repT_txs {p : List Item} {fee w : Int} {bs : List Nat} (hl : p.length ≤ 100) (hok : ∀ a ∈ p, a.ok) (hf0 : 0 ≤ fee) (hf1 : fee ≤ 1000000) (hw1 : w ≤ 1000000) (hb : bs.length ≤ 1000) (hg : goesB p w bs = true) : ∀ y ∈ repT p fee w bs, Txs 12000 y := by
  have hgo : ∀ q ∈ endsF 0 bs, (lw p q.1 q.2 : Int) ≤ w := fun q hq => of_decide_eq_true (List.all_eq_true.mp hg q hq)
  have hsm : ∀ q ∈ endsF 0 bs, 0 ≤ lc p fee q.1 q.2 w ∧ lc p fee q.1 q.2 w ≤ 2000000000000 := fun q hq => by
    obtain ⟨_, _, _, h4, h5⟩ := line_small (p := p) (b := q.1) (t := q.2) hl hok hf0 hf1 hw1 (hgo q hq)
    exact ⟨h4, h5⟩
  obtain ⟨hs0, hs1⟩ := sum_small hsm
  rw [ends_len] at hs1
  intro y hy
  unfold repT at hy
  rcases List.mem_append.mp hy with hy | hy
  · obtain ⟨q, hq, rfl⟩ := List.mem_map.mp hy
    exact lineT_txs hl hok hf0 hf1 hw1 (hgo q hq)
  · simp at hy
    subst hy
    have t1 := num_txs (i := (bs.length : Int)) (by omega) (by omega)
    have t2 := num_txs (i := sumC p fee w bs) hs0 (by unfold sumC; omega)
    exact (((all_txs.app t1).app bl_txs).app t2).mono (by decide)
theorem sum_bounds {p : List Item} {fee w : Int} {bs : List Nat} (hl : p.length ≤ 100) (hok : ∀ a ∈ p, a.ok) (hf0 : 0 ≤ fee) (hf1 : fee ≤ 1000000) (hw1 : w ≤ 1000000) (hb : bs.length ≤ 1000) (hg : goesB p w bs = true) : 0 ≤ sumC p fee w bs ∧ sumC p fee w bs < 100000000000000000000 := by
  have hgo : ∀ q ∈ endsF 0 bs, (lw p q.1 q.2 : Int) ≤ w := fun q hq => of_decide_eq_true (List.all_eq_true.mp hg q hq)
  have hsm : ∀ q ∈ endsF 0 bs, 0 ≤ lc p fee q.1 q.2 w ∧ lc p fee q.1 q.2 w ≤ 2000000000000 := fun q hq => by
    obtain ⟨_, _, _, h4, h5⟩ := line_small (p := p) (b := q.1) (t := q.2) hl hok hf0 hf1 hw1 (hgo q hq)
    exact ⟨h4, h5⟩
  obtain ⟨hs0, hs1⟩ := sum_small hsm
  rw [ends_len] at hs1
  unfold sumC
  omega
theorem allT_split {k : Nat} {s : Int} (hs : 0 ≤ s) : PySem.Txt.split (allT k s) s__20_ = [⟨#[97, 108, 108]⟩, strI (k : Int), strI s] := by
  have e : allT k s = PySem.Txt.join s__20_ [⟨#[97, 108, 108]⟩, strI (k : Int), strI s] := by
    rw [join_cons2, join_cons2, join_one]
    unfold allT
    have e1 : s_all_20_ = ⟨#[97, 108, 108]⟩ ++ s__20_ := by decide
    rw [e1]
    simp only [str_assoc]
  rw [e]
  refine TL.split_join (s := 32) (S := []) rfl (by decide +kernel) (by simp) fun y hy => ?_
  simp at hy
  rcases hy with rfl | rfl | rfl
  · decide
  · exact num_free (by omega)
  · exact num_free hs
end Pl

set_option Elab.async false
set_option linter.all false
set_option maxRecDepth 100000
set_option maxHeartbeats 1000000
/-! The plain law of k88: one turn. -/
namespace Pl
open PySem Ev Core88 Wk
abbrev rS (i : Nat) : S := nth f__law_right.body i
@[simp] theorem ne_bools {a b : Bool} : cmpV .ne (.dat (.bool a)) (.dat (.bool b)) = some (!(a == b)) := by
  cases a <;> cases b <;> rfl
theorem ne_str_self {k : Nat} {u : Str} (h : Txs k u) : cmpV .ne (.dat (.str u)) (.dat (.str u)) = some false := by
  rw [ne_str h.ok h.ok]; simp
section
variable {call : Str → List Ev.Slot → FRes} {p : List Item} {f w : Int} {bs : List Nat}
theorem splitV_ok {u s : Str} {ys : List Str} {k : Nat} (hu : Txs k u) (hk : k ≤ 16777214) (hs : (s.length == 0) = false) (e : PySem.Txt.split u s = ys) : splitV s (.dat (.str u)) = some (.own (.lst (ys.map PyData.str))) := by
  show (if (!(s.length == 0) && okLen (u.length + 2)) = true then some (RV.own (.lst ((PySem.Txt.split u s).map .str))) else none) = _
  rw [hs, e]
  have : okLen (u.length + 2) = true := by
    rw [okLen_iff]
    have := hu.len
    omega
  rw [this]; rfl
theorem st5 (hl : p.length ≤ 100) (hok : ∀ a ∈ p, a.ok) (hf0 : 0 ≤ f) (hf1 : f ≤ 1000000) (hw1 : w ≤ 1000000) (hb : bs.length ≤ 1000) {δ : Sts} (h5 : getS δ 5 = .dat (repD p f w bs)) (h6 : getS δ 6 = .dat (costD p f w bs)) : evS call (rS 5) δ = .next δ := by
  unfold repD at h5
  unfold costD at h6
  cases hg : goesB p w bs with
  | false =>
    rw [hg] at h5 h6
    simp at h5 h6
    simp [rS, nth, f__law_right, h5, h6]
  | true =>
    rw [hg, if_pos rfl] at h5 h6
    obtain ⟨s0, s1⟩ := sum_bounds (bs := bs) hl hok hf0 hf1 hw1 hb hg
    have tn := num_txs s0 s1
    have hst := bi_strN s0 s1
    have ta := repT_txs hl hok hf0 hf1 hw1 hb hg (allT bs.length (sumC p f w bs)) (List.mem_append_right _ List.mem_cons_self)
    have hsp := splitV_ok ta (by decide) (s := s__20_) rfl (allT_split s0)
    have hlast : ((repT p f w bs).map PyData.str).getLast? = some (.str (allT bs.length (sumC p f w bs))) := by
      unfold repT
      rw [List.map_append]
      exact List.getLast?_concat
    have hne := ne_str_self tn
    generalize (repT p f w bs).map PyData.str = Z at h5 hlast
    generalize allT bs.length (sumC p f w bs) = AT at hsp hlast
    simp only [List.map_cons, List.map_nil] at hsp
    simp [rS, nth, f__law_right, h5, h6, hlast, hsp, hst, hne]
theorem wordsT {ns : List Int} (h : Small ns) : ∃ words : Str, Txs 4300000 words ∧ joinV s__20_ (.lst ((ns.map strI).map PyData.str)) = some (.dat (.str words)) ∧ (if words = s_ then s__2d_ else words) = nsT ns := by
  have hsl := h.1
  refine ⟨PySem.Txt.join s__20_ (ns.map strI), ?_, joinV_txs (k := 20) bl_txs (ns_txs h) rfl (by rw [List.length_map]; omega), ?_⟩
  · refine (Txs.join (k := 20) bl_txs (ns_txs h)).mono ?_
    rw [List.length_map]; omega
  · unfold nsT
    cases ns with
    | nil => rfl
    | cons i r =>
      have hi := h.2 i List.mem_cons_self
      have hn : PySem.Txt.join s__20_ ((i :: r).map strI) ≠ s_ := by
        intro e
        have h2 : (PySem.Txt.join s__20_ ((i :: r).map strI)).cps.toList = [] := by rw [e]; rfl
        have h3 := num_ne (i := i) (by omega)
        cases r with
        | nil =>
          rw [List.map_cons, List.map_nil, join_one] at h2
          exact h3 h2
        | cons j r =>
          rw [List.map_cons, List.map_cons, join_cons2, str_toList, str_toList] at h2
          exact h3 (List.append_eq_nil_iff.mp (List.append_eq_nil_iff.mp h2).1).1
      rw [if_neg hn, if_neg (by simp)]
end
theorem st7 {p : List Item} {f w : Int} (hp : Good p) (hl : p.length ≤ 40) (hf0 : 0 ≤ f) (hf1 : f ≤ 1000000) (hw0 : 0 ≤ w) (hw1 : w ≤ 1000000) {d r : D} (hR : BestR p f w d r) {n : Nat} (hb : evF tbl (n + 8) s_best_5f_report [.dat (par p), .dat (.int f), .dat (.int w)] = .ret (.dat r) [.dat (par p), .dat (.int f), .dat (.int w)])
    {L : List D} {s4 s5 s6 s9 s10 s11 s12 s13 : Ev.Slot} : ∃ s8, evS (evF tbl (n + 8)) (rS 7) [.lst L, .dat (par p), .dat (.int f), .dat (.int w), s4, s5, s6, .dat d, .emp, s9, s10, s11, s12, s13, .emp] = .next [.lst L, .dat (par p), .dat (.int f), .dat (.int w), s4, s5, s6, .dat d, s8, s9, s10, s11, s12, s13, .emp] := by
  cases hR with
  | best hr =>
    rename_i v bs
    have hbl := hr.len
    have e := law_report_ok (p := p) (fee := f) (w := w) (bs := bs) (by omega) hp.ok hf0 hf1 hw0 hw1 (hr.fit hp) (by omega) (n + 6)
    have hne := ne_self (repT_txs (p := p) (fee := f) (w := w) (bs := bs) (by omega) hp.ok hf0 hf1 hw1 (by omega) hr.goes)
    unfold repD at e
    rw [hr.goes, if_pos rfl] at e
    refine ⟨.emp, ?_⟩
    generalize evF tbl (n + 8) = call at hb e ⊢
    generalize (repT p f w bs).map PyData.str = Z at hb e hne
    simp [rS, nth, f__law_right, hb, e, hne]
  | narrow hs =>
    rename_i ns
    have hsl := hs.1
    obtain ⟨words, hw2, hJ, hns⟩ := wordsT hs
    have e := comp_strs (call := evF tbl (n + 8)) (i := 14) (it := .seq (.sub (.var 7) (.cst (.int 1)))) (ns := ns)
      (δ := [.lst L, .dat (par p), .dat (.int f), .dat (.int w), s4, s5, s6, .dat (.tuple [.str s_narrow, .tuple (ns.map PyData.int)]), .emp, s9, s10, s11, s12, s13, .emp]) (δ1 := [.lst L, .dat (par p), .dat (.int f), .dat (.int w), s4, s5, s6, .dat (.tuple [.str s_narrow, .tuple (ns.map PyData.int)]), .emp, s9, s10, s11, s12, s13, .emp]) rfl rfl (by omega) (by simp) (fun i hi => by have := hs.2 i hi; omega)
    have t1 := nsT_txs hs
    have m1 : s_narrow_20_.length + (nsT ns).length ≤ 16777216 := by
      have := narrow_txs.len
      have := t1.len
      omega
    have hne := ne_self (k := 4300007) (ys := [s_narrow_20_ ++ nsT ns]) (fun y hy => by simp at hy; subst hy; exact (narrow_txs.app t1).mono (by decide))
    simp only [List.map_cons, List.map_nil] at hne
    have hwn : cmpV .ne (.dat (.str words)) (.dat (.str s_)) = some (!(words == s_)) := ne_str hw2.ok (by decide +kernel)
    refine ⟨.dat (.str words), ?_⟩
    by_cases h0 : words = s_
    · rw [if_pos h0] at hns
      rw [← hns] at hb m1 hne
      have hwb : (words == s_) = true := by rw [h0]; decide
      rw [hwb] at hwn
      generalize evF tbl (n + 8) = call at hb e ⊢
      generalize (ns.map strI).map PyData.str = Z at hJ e
      generalize ns.map PyData.int = Y at e ⊢
      simp [rS, nth, f__law_right, e, hJ]
      simp [hwn, hb, m1, hne]
    · rw [if_neg h0] at hns
      rw [← hns] at hb m1 hne
      have hwb : (words == s_) = false := by simpa using h0
      rw [hwb] at hwn
      generalize evF tbl (n + 8) = call at hb e ⊢
      generalize (ns.map strI).map PyData.str = Z at hJ e
      generalize ns.map PyData.int = Y at e ⊢
      simp [rS, nth, f__law_right, e, hJ]
      simp [hwn, hb, m1, hne]
end Pl

set_option Elab.async false
set_option linter.all false
set_option maxRecDepth 100000
set_option maxHeartbeats 1000000
/-! The plain law of k88: all turns. -/
namespace Pl
open PySem Ev Core88 Wk
theorem right_eq : f__law_right.body = .cons (rS 0) (.cons (rS 1) (.cons (rS 2) (.cons (rS 3) (.cons (rS 4) (.cons (rS 5) (.cons (rS 6) (.cons (rS 7) (.cons (rS 8) (.cons (rS 9) (.cons (rS 10) (.cons (rS 11) (.cons (rS 12) (.cons (rS 13) (.cons (rS 14) (.cons (rS 15) .nil))))))))))))))) := rfl
@[simp] theorem said_par : saidT.lookup s_NoParagraph = some s_paragraph := by decide
@[simp] theorem said_fee : saidT.lookup s_NoFee = some s_fee := by decide
@[simp] theorem said_meas : saidT.lookup s_NoMeasure = some s_measure := by decide
@[simp] theorem said_brk : saidT.lookup s_NoBreaking = some s_breaking := by decide
theorem said_all : cmpV .eq (.lst [.str s_paragraph, .str s_fee, .str s_measure, .str s_breaking]) (.lst [.str s_paragraph, .str s_fee, .str s_measure, .str s_breaking]) = some true := by
  have ok : eqOk (.list [.str s_paragraph, .str s_fee, .str s_measure, .str s_breaking]) = true := (Lay.lst (k := 0) (ds := [.str s_paragraph, .str s_fee, .str s_measure, .str s_breaking]) fun d hd => by
    simp at hd
    rcases hd with rfl | rfl | rfl | rfl <;> exact Lay.str (by decide +kernel)).ok (by decide)
  show (if (eqOk (.list [.str s_paragraph, .str s_fee, .str s_measure, .str s_breaking]) && eqOk (.list [.str s_paragraph, .str s_fee, .str s_measure, .str s_breaking])) = true then some (PyData.eqv (.list [.str s_paragraph, .str s_fee, .str s_measure, .str s_breaking]) (.list [.str s_paragraph, .str s_fee, .str s_measure, .str s_breaking])) else none) = some true
  rw [ok]
  simp [PyData.eqv, PyData.eqvAll]
theorem ne_rep {p : List Item} {f w : Int} {bs : List Nat} (hl : p.length ≤ 100) (hok : ∀ a ∈ p, a.ok) (hf0 : 0 ≤ f) (hf1 : f ≤ 1000000) (hw1 : w ≤ 1000000) (hb : bs.length ≤ 1000) : cmpV .ne (.dat (repD p f w bs)) (.dat (repD p f w bs)) = some false := by
  unfold repD
  cases hg : goesB p w bs with
  | false => rfl
  | true =>
    rw [if_pos rfl]
    exact ne_self (repT_txs hl hok hf0 hf1 hw1 hb hg)
theorem right_ok {L : List D} (hL : IsHand L) (n : Nat) : ∃ L', IsHand L' ∧ evF tbl (n + 9) s__5f_law_5f_right [.lst L] = .ret (.dat (.bool true)) [.lst L'] := by
  obtain ⟨L1, p, h1, hp, hl9, e_par⟩ := paragraph_ok hL (n + 5)
  obtain ⟨df, L2, hdf, h2, e_fee⟩ := any_ok h1 (ds := [.int 0, .int 1, .int 20]) (.inr rfl) (by simp) (by simp) (n + 6)
  obtain ⟨f, rfl, hf0, hf1⟩ : ∃ f : Int, df = .int f ∧ 0 ≤ f ∧ f ≤ 1000000 := by
    simp at hdf
    rcases hdf with rfl | rfl | rfl
    · exact ⟨0, rfl, by omega, by omega⟩
    · exact ⟨1, rfl, by omega, by omega⟩
    · exact ⟨20, rfl, by omega, by omega⟩
  obtain ⟨wn, L3, hwn, h3, e_w⟩ := draw_ok h2 (m := 25) (by decide) (by decide) (n + 7)
  obtain ⟨w, hw0, hw1, hwe⟩ : ∃ w : Int, 0 ≤ w ∧ w ≤ 1000000 ∧ (wn : Int) = w := ⟨wn, by omega, by omega, rfl⟩
  rw [hwe] at e_w
  obtain ⟨L4, bs, h4, hv, e_b⟩ := law_breaking_ok h3 (p := p) (by omega) (n + 6)
  have hbl := hv.len
  have hF := hv.fit hp
  have e_due := law_report_ok (p := p) (fee := f) (w := w) (bs := bs) (by omega) hp.ok hf0 hf1 hw0 hw1 hF (by omega) (n + 6)
  have e_rep := breaking_report_ok (w := w) hp hf0 hf1 hw0 hw1 (brk_ok (by omega) hv) hv.le (by omega) (n + 1)
  have e_cost := cost_of_ok (w := w) hp hf0 hf1 hw0 hw1 (brk_ok (by omega) hv) hv.le (by omega) (n + 2)
  obtain ⟨d, hT, e_raw⟩ := raw_best_ok p f w (by omega) hp.ok hw0 hw1 n
  have hnw : IsNum (.int w) true := by have h := num_int w; rw [decide_eq_true hw0] at h; exact h
  have e_told := best_told_ok hp (fee_int hf0 hf1) hnw e_raw
  obtain ⟨r, hR⟩ := told_best hT
  have e_best := best_report_ok hp hf0 hf1 hw0 hw1 hR e_raw
  obtain ⟨bad, L5, hbad, h5, e_bad⟩ := any_ok h4 (ds := [.none, .tuple [], .list [.tuple [.str s_box, .int 1]], .tuple [.tuple [.str s_gap, .int 1]]]) (.inr rfl) (by simp) (by simp) (n + 6)
  obtain ⟨odd, L6, hodd, h6, e_odd⟩ := any_ok h5 (ds := [.none, .tuple [], .list (bs.map intN), brk (bs ++ [99])]) (.inr rfl) (by simp) (by simp) (n + 6)
  obtain ⟨off, L7, hoff, h7, e_off⟩ := any_ok h6 (ds := [.none, .int (-1), .bool true, .str s_1]) (.inr rfl) (by simp) (by simp) (n + 6)
  obtain ⟨non, L8, hnon, h8, e_non⟩ := any_ok h7 (ds := [.none, .int (-1), .bool true, .int 1000001]) (.inr rfl) (by simp) (by simp) (n + 6)
  have kbad : IsPar bad false := by
    simp at hbad
    rcases hbad with rfl | rfl | rfl | rfl
    · exact odd_none
    · exact odd_nil
    · exact odd_list _
    · exact odd_gap
  have kodd : IsBrk p odd false := by
    simp only [List.mem_cons, List.not_mem_nil, or_false] at hodd
    rcases hodd with rfl | rfl | rfl | rfl
    · exact brk_nt (by omega) rfl
    · exact brk_nil (by omega)
    · exact brk_nt (by omega) rfl
    · exact brk_more (by omega) (by omega)
  have koff : IsNum off false := by
    simp at hoff
    rcases hoff with rfl | rfl | rfl | rfl
    · exact noint_none.num
    · exact num_neg
    · exact (noint_bool _).num
    · exact (noint_str _).num
  have knon : IsFee non false := by
    simp at hnon
    rcases hnon with rfl | rfl | rfl | rfl
    · exact noint_none.fee
    · exact fee_neg
    · exact (noint_bool _).fee
    · exact fee_big
  have x1 := report_par (f := non) (o := odd) (m := off) kbad (n + 1)
  have x2 := report_fee (o := odd) (m := off) (good_par hp) knon (n + 1)
  have x3 := best_meas hp (fee_int hf0 hf1) koff (n + 1)
  have x4 := report_brk hp (fee_int hf0 hf1) hnw kodd (n + 1)
  have hne := ne_rep (p := p) (f := f) (w := w) (bs := bs) (by omega) hp.ok hf0 hf1 hw1 (by omega)
  obtain ⟨s8, e7⟩ := st7 (n := n) (L := L4) (s4 := .dat (brk bs)) (s5 := .dat (repD p f w bs)) (s6 := .dat (costD p f w bs)) (s9 := .emp) (s10 := .emp) (s11 := .emp) (s12 := .emp) (s13 := .emp) hp (by omega) hf0 hf1 hw0 hw1 hR e_best
  refine ⟨L8, h8, ?_⟩
  refine (run_of (F := f__law_right) (fl := .ret (.dat (.bool true)) [.lst L8, .dat (par p), .dat (.int f), .dat (.int w), .dat (brk bs), .dat (repD p f w bs), .dat (costD p f w bs), .dat d, s8, .dat bad, .dat odd, .dat off, .dat non, .lst [.str s_paragraph, .str s_fee, .str s_measure, .str s_breaking], .emp]) rfl rfl (by simp [f__law_right]) ?_).trans rfl
  have z5 := st5 (call := evF tbl (n + 8)) (p := p) (f := f) (w := w) (bs := bs) (by omega) hp.ok hf0 hf1 hw1 (by omega) (δ := [.lst L4, .dat (par p), .dat (.int f), .dat (.int w), .dat (brk bs), .dat (repD p f w bs), .dat (costD p f w bs), .emp, .emp, .emp, .emp, .emp, .emp, .emp, .emp]) rfl rfl
  have hadd : opV .add (.dat (brk bs)) (.dat (.tuple [.int 99])) = some (.dat (brk (bs ++ [99]))) := by
    unfold brk
    rw [op_addT, if_pos (by rw [List.length_map]; simp; omega), List.map_append]
    rfl
  have hlst : biV .list [.dat (brk bs)] = some (.own (.lst (bs.map intN))) := rfl
  generalize repD p f w bs = RD at *
  generalize costD p f w bs = CD at *
  generalize brk (bs ++ [99]) = B99 at *
  generalize brk bs = BB at *
  generalize bs.map intN = BI at *
  generalize evF tbl (n + 8) = call at e_par e_fee e_w e_b e_due e_rep e_cost e_told e_bad e_odd e_off e_non x1 x2 x3 x4 e7 z5 ⊢
  have z0 : evS call (rS 0) ([.lst L] ++ List.replicate (f__law_right.names.length - [Ev.Slot.lst L].length) .emp) = .next [.lst L3, .dat (par p), .dat (.int f), .dat (.int w), .emp, .emp, .emp, .emp, .emp, .emp, .emp, .emp, .emp, .emp, .emp] := by
    simp [rS, nth, f__law_right, e_par, e_fee, e_w]
  have z1 : evS call (rS 1) [.lst L3, .dat (par p), .dat (.int f), .dat (.int w), .emp, .emp, .emp, .emp, .emp, .emp, .emp, .emp, .emp, .emp, .emp] = .next [.lst L4, .dat (par p), .dat (.int f), .dat (.int w), .dat BB, .emp, .emp, .emp, .emp, .emp, .emp, .emp, .emp, .emp, .emp] := by
    simp [rS, nth, f__law_right, e_b]
  have z2 : evS call (rS 2) [.lst L4, .dat (par p), .dat (.int f), .dat (.int w), .dat BB, .emp, .emp, .emp, .emp, .emp, .emp, .emp, .emp, .emp, .emp] = .next [.lst L4, .dat (par p), .dat (.int f), .dat (.int w), .dat BB, .dat RD, .emp, .emp, .emp, .emp, .emp, .emp, .emp, .emp, .emp] := by
    simp [rS, nth, f__law_right, e_due]
  have z3 : evS call (rS 3) [.lst L4, .dat (par p), .dat (.int f), .dat (.int w), .dat BB, .dat RD, .emp, .emp, .emp, .emp, .emp, .emp, .emp, .emp, .emp] = .next [.lst L4, .dat (par p), .dat (.int f), .dat (.int w), .dat BB, .dat RD, .emp, .emp, .emp, .emp, .emp, .emp, .emp, .emp, .emp] := by
    simp [rS, nth, f__law_right, e_rep, hne]
  have z4 : evS call (rS 4) [.lst L4, .dat (par p), .dat (.int f), .dat (.int w), .dat BB, .dat RD, .emp, .emp, .emp, .emp, .emp, .emp, .emp, .emp, .emp] = .next [.lst L4, .dat (par p), .dat (.int f), .dat (.int w), .dat BB, .dat RD, .dat CD, .emp, .emp, .emp, .emp, .emp, .emp, .emp, .emp] := by
    simp [rS, nth, f__law_right, e_cost]
  have z6 : evS call (rS 6) [.lst L4, .dat (par p), .dat (.int f), .dat (.int w), .dat BB, .dat RD, .dat CD, .emp, .emp, .emp, .emp, .emp, .emp, .emp, .emp] = .next [.lst L4, .dat (par p), .dat (.int f), .dat (.int w), .dat BB, .dat RD, .dat CD, .dat d, .emp, .emp, .emp, .emp, .emp, .emp, .emp] := by
    simp [rS, nth, f__law_right, e_told]
  have z8 : evS call (rS 8) [.lst L4, .dat (par p), .dat (.int f), .dat (.int w), .dat BB, .dat RD, .dat CD, .dat d, s8, .emp, .emp, .emp, .emp, .emp, .emp] = .next [.lst L5, .dat (par p), .dat (.int f), .dat (.int w), .dat BB, .dat RD, .dat CD, .dat d, s8, .dat bad, .emp, .emp, .emp, .emp, .emp] := by
    simp [rS, nth, f__law_right, e_bad]
  have z9 : evS call (rS 9) [.lst L5, .dat (par p), .dat (.int f), .dat (.int w), .dat BB, .dat RD, .dat CD, .dat d, s8, .dat bad, .emp, .emp, .emp, .emp, .emp] = .next [.lst L6, .dat (par p), .dat (.int f), .dat (.int w), .dat BB, .dat RD, .dat CD, .dat d, s8, .dat bad, .dat odd, .emp, .emp, .emp, .emp] := by
    simp [rS, nth, f__law_right, hlst, hadd, e_odd]
  have z10 : evS call (rS 10) [.lst L6, .dat (par p), .dat (.int f), .dat (.int w), .dat BB, .dat RD, .dat CD, .dat d, s8, .dat bad, .dat odd, .emp, .emp, .emp, .emp] = .next [.lst L8, .dat (par p), .dat (.int f), .dat (.int w), .dat BB, .dat RD, .dat CD, .dat d, s8, .dat bad, .dat odd, .dat off, .dat non, .emp, .emp] := by
    simp [rS, nth, f__law_right, e_off, e_non]
  have z11 : evS call (rS 11) [.lst L8, .dat (par p), .dat (.int f), .dat (.int w), .dat BB, .dat RD, .dat CD, .dat d, s8, .dat bad, .dat odd, .dat off, .dat non, .emp, .emp] = .next [.lst L8, .dat (par p), .dat (.int f), .dat (.int w), .dat BB, .dat RD, .dat CD, .dat d, s8, .dat bad, .dat odd, .dat off, .dat non, .lst [.str s_paragraph], .emp] := by
    simp [rS, nth, f__law_right, x1]
  have z12 : evS call (rS 12) [.lst L8, .dat (par p), .dat (.int f), .dat (.int w), .dat BB, .dat RD, .dat CD, .dat d, s8, .dat bad, .dat odd, .dat off, .dat non, .lst [.str s_paragraph], .emp] = .next [.lst L8, .dat (par p), .dat (.int f), .dat (.int w), .dat BB, .dat RD, .dat CD, .dat d, s8, .dat bad, .dat odd, .dat off, .dat non, .lst [.str s_paragraph, .str s_fee], .emp] := by
    simp [rS, nth, f__law_right, x2]
  have z13 : evS call (rS 13) [.lst L8, .dat (par p), .dat (.int f), .dat (.int w), .dat BB, .dat RD, .dat CD, .dat d, s8, .dat bad, .dat odd, .dat off, .dat non, .lst [.str s_paragraph, .str s_fee], .emp] = .next [.lst L8, .dat (par p), .dat (.int f), .dat (.int w), .dat BB, .dat RD, .dat CD, .dat d, s8, .dat bad, .dat odd, .dat off, .dat non, .lst [.str s_paragraph, .str s_fee, .str s_measure], .emp] := by
    simp [rS, nth, f__law_right, x3]
  have z14 : evS call (rS 14) [.lst L8, .dat (par p), .dat (.int f), .dat (.int w), .dat BB, .dat RD, .dat CD, .dat d, s8, .dat bad, .dat odd, .dat off, .dat non, .lst [.str s_paragraph, .str s_fee, .str s_measure], .emp] = .next [.lst L8, .dat (par p), .dat (.int f), .dat (.int w), .dat BB, .dat RD, .dat CD, .dat d, s8, .dat bad, .dat odd, .dat off, .dat non, .lst [.str s_paragraph, .str s_fee, .str s_measure, .str s_breaking], .emp] := by
    simp [rS, nth, f__law_right, x4]
  have z15 : evS call (rS 15) [.lst L8, .dat (par p), .dat (.int f), .dat (.int w), .dat BB, .dat RD, .dat CD, .dat d, s8, .dat bad, .dat odd, .dat off, .dat non, .lst [.str s_paragraph, .str s_fee, .str s_measure, .str s_breaking], .emp] = .ret (.dat (.bool true)) [.lst L8, .dat (par p), .dat (.int f), .dat (.int w), .dat BB, .dat RD, .dat CD, .dat d, s8, .dat bad, .dat odd, .dat off, .dat non, .lst [.str s_paragraph, .str s_fee, .str s_measure, .str s_breaking], .emp] := by
    simp [rS, nth, f__law_right, said_all]
  rw [right_eq]
  rw [nx z0, nx z1, nx z2, nx z3, nx z4, nx z5, nx z6, nx e7, nx z8, nx z9, nx z10, nx z11, nx z12, nx z13, nx z14]
  exact nx_ret z15
end Pl

set_option Elab.async false
set_option linter.all false
set_option maxRecDepth 100000
set_option maxHeartbeats 1000000
/-! The plain law of k88: the law. -/
namespace Pl
open PySem Ev Core88 Wk
def p0 : List Item := [.box 3, .gap 1, .box 2, .cut 1 7, .box 4]
def p1 : List Item := [.box 9]
theorem good0 : Good p0 := ⟨by
  intro a ha
  simp [p0] at ha
  rcases ha with rfl | rfl | rfl | rfl | rfl <;> simp [Item.ok], by decide, ⟨3, _, rfl⟩, ⟨4, [.box 3, .gap 1, .box 2, .cut 1 7], rfl⟩, rfl⟩
theorem good1 : Good p1 := ⟨by
  intro a ha
  simp [p1] at ha
  subst ha
  simp [Item.ok], by decide, ⟨9, _, rfl⟩, ⟨9, [], rfl⟩, rfl⟩
theorem valid0 : Valid p0 [3, 5] := ⟨rfl, by decide, by decide, by decide, by decide⟩
theorem rep88 : repT p0 2 8 [3, 5] = [s_7_20_1_20_10_3a__20_b3_20_g1_20_b2_20_c1_2f_7, s_4_20_0_20_2_3a__20_b4, s_all_20_2_20_12] := by decide +kernel
theorem goes0 : goesB p0 8 [3, 5] = true := by decide
theorem rep88_ok (n : Nat) : evF tbl (n + 7) s_breaking_5f_report [.dat (par p0), .dat (.int 2), .dat (brk [3, 5]), .dat (.int 8)] = .ret (.dat (.tuple [.str s_7_20_1_20_10_3a__20_b3_20_g1_20_b2_20_c1_2f_7, .str s_4_20_0_20_2_3a__20_b4, .str s_all_20_2_20_12])) [.dat (par p0), .dat (.int 2), .dat (brk [3, 5]), .dat (.int 8)] := by
  have h := breaking_report_ok (fee := 2) (w := 8) good0 (by decide) (by decide) (by decide) (by decide) (brk_ok (by decide) valid0) valid0.le (by decide) n
  have e : repD p0 2 8 [3, 5] = .tuple [.str s_7_20_1_20_10_3a__20_b3_20_g1_20_b2_20_c1_2f_7, .str s_4_20_0_20_2_3a__20_b4, .str s_all_20_2_20_12] := by
    unfold repD
    rw [goes0, if_pos rfl, rep88]; rfl
  rw [e] at h
  exact h
/-! ### too narrow -/
theorem within1 : within p1 5 = [] := by
  have h : ((rawLines p1).filter fun q => decide ((lw p1 q.1 q.2 : Int) ≤ 5)) = [] := by decide
  unfold within
  rw [h]
  simp [sortP]
theorem lines1 (n : Nat) : evF tbl (n + 4) s_lines_5f_within [.dat (par p1), .dat (.int 5)] = .ret (.own (.lst [])) [.dat (par p1), .dat (.int 5)] := by
  have h := lines_within_ok p1 5 (by decide) n
  rw [within1] at h
  exact h
theorem ahead1 (n : Nat) : evF tbl (n + 5) s_costs_5f_ahead [.dat (par p1), .dat (.int 0), .dat (.int 5)] = .ret (.own (.dK [(.inl (-1), .int 0)])) [.dat (par p1), .dat (.int 0), .dat (.int 5)] := by
  have h := lines1 n
  refine (run_of (F := f_costs_ahead) (fl := .ret (.loc 3) [.dat (par p1), .dat (.int 0), .dat (.int 5), .dK [(.inl (-1), .int 0)], .emp, .emp, .emp]) rfl rfl (by simp [f_costs_ahead]) ?_).trans rfl
  generalize evF tbl (n + 4) = call at h ⊢
  simp [f_costs_ahead, h]
theorem behind1 (n : Nat) : evF tbl (n + 5) s_costs_5f_behind [.dat (par p1), .dat (.int 0), .dat (.int 5)] = .ret (.own (.dK [(.inl 1, .int 0)])) [.dat (par p1), .dat (.int 0), .dat (.int 5)] := by
  have h := lines1 n
  refine (run_of (F := f_costs_behind) (fl := .ret (.loc 3) [.dat (par p1), .dat (.int 0), .dat (.int 5), .dK [(.inl 1, .int 0)], .emp, .emp, .emp]) rfl rfl (by simp [f_costs_behind]) ?_).trans rfl
  generalize evF tbl (n + 4) = call at h ⊢
  have hp1 : p1.length = 1 := rfl
  simp [f_costs_behind, h, hp1]
theorem come1 (n : Nat) : evF tbl (n + 6) s_come_5f_to [.dat (par p1), .dat (.int 5)] = .ret (.own (.lst [])) [.dat (par p1), .dat (.int 5)] := by
  have h := ahead1 n
  obtain ⟨δ2, ⟨s, rfl⟩, e⟩ := compS_filter (call := evF tbl (n + 5)) (own := [2]) (tg := .nm 2) (it := .keys (.call s_costs_5f_ahead (.cons (.var 0) (.cons (.cst (.int 0)) (.cons (.var 1) .nil))))) (cs := .cons (.cmp .ge (.var 2) (.cst (.int 0))) .nil) (elt := .var 2)
    (δ := [.dat (par p1), .dat (.int 5), .emp]) (δ1 := [.dat (par p1), .dat (.int 5), .emp]) (ds := [PyData.int (-1)]) (p := geD) (g := fun d => d) (I := fun δ => ∃ s, δ = [.dat (par p1), .dat (.int 5), s]) (by
      generalize evF tbl (n + 5) = call at h ⊢
      simp [h, keyD]) rfl ⟨_, rfl⟩ (by
      rintro d hd δ ⟨s, rfl⟩
      simp at hd
      subst hd
      refine ⟨[.dat (par p1), .dat (.int 5), .dat (.int (-1))], [.dat (par p1), .dat (.int 5), .dat (.int (-1))], rfl, rfl, fun _ => ⟨_, rfl⟩, fun h => by cases h⟩)
  have he : ([PyData.int (-1)].filter geD).map (fun d => d) = [] := by decide
  rw [he] at e
  have hs : sortV [] = some (.own (.lst [])) := by
    have := sortV_ints []
    simpa [sortI] using this
  refine (run_of (F := f_come_to) (fl := .ret (.own (.lst [])) [.dat (par p1), .dat (.int 5), .emp]) rfl rfl (by simp [f_come_to]) ?_).trans rfl
  generalize evF tbl (n + 5) = call at e ⊢
  simp [f_come_to, e, hs]
theorem raw1 (n : Nat) : evF tbl (n + 7) s_raw_5f_best [.dat (par p1), .dat (.int 0), .dat (.int 5)] = .ret (.dat (.tuple [.str s_narrow, .tuple (([] : List Int).map PyData.int)])) [.dat (par p1), .dat (.int 0), .dat (.int 5)] := by
  have h1 := behind1 (n + 1)
  have h2 := come1 n
  refine (run_of (F := f_raw_best) (fl := .ret (.dat (.tuple [.str s_narrow, .tuple (([] : List Int).map PyData.int)])) [.dat (par p1), .dat (.int 0), .dat (.int 5), .dK [(.inl 1, .int 0)]]) rfl rfl (by simp [f_raw_best]) ?_).trans rfl
  generalize evF tbl (n + 6) = call at h1 h2 ⊢
  simp [f_raw_best, h1, h2, lookA]
theorem best1 (n : Nat) : evF tbl (n + 8) s_best_5f_report [.dat (par p1), .dat (.int 0), .dat (.int 5)] = .ret (.dat (.tuple [.str s_narrow_20__2d_])) [.dat (par p1), .dat (.int 0), .dat (.int 5)] := by
  have h := best_report_ok (fee := 0) (w := 5) good1 (by decide) (by decide) (by decide) (by decide) (.narrow (ns := []) ⟨by decide, fun i hi => by cases hi⟩) (raw1 n)
  have e : s_narrow_20_ ++ nsT [] = s_narrow_20__2d_ := by decide
  rw [e] at h
  exact h
theorem law_ok (ns : List Int) (n : Nat) : ∃ back, evF tbl (n + 10) s_law [.scr ns] = .ret (.dat (.bool true)) back := by
  obtain ⟨L, hL, c0⟩ := hand_ok ns (n + 8)
  have c1 := rep88_ok (n + 2)
  have c2 := best1 (n + 1)
  have hne1 := ne_self (k := 12000) (ys := [s_7_20_1_20_10_3a__20_b3_20_g1_20_b2_20_c1_2f_7, s_4_20_0_20_2_3a__20_b4, s_all_20_2_20_12]) (fun y hy => by
    rw [← rep88] at hy
    exact repT_txs (by decide) good0.ok (by decide) (by decide) (by decide) (by decide) goes0 y hy)
  have hne2 := ne_self (k := 10) (ys := [s_narrow_20__2d_]) (fun y hy => by
    simp at hy; subst hy
    exact ⟨by decide, by decide⟩)
  simp only [List.map_cons, List.map_nil] at hne1 hne2
  let δ0 : Sts := [.scr ns, .lst L, .dat (par p0), .emp]
  obtain ⟨δ2, ⟨L', s, hL', rfl⟩, e⟩ := compS_map (call := evF tbl (n + 9)) (own := [3]) (tg := .nm 3) (it := .range1 (.cst (.int 5))) (elt := .call s__5f_law_5f_right (.cons (.var 1) .nil)) (δ := δ0) (δ1 := δ0) (ds := rangeL 0 1 5) (g := fun _ => .bool true) (I := fun δ => ∃ L' s, IsHand L' ∧ δ = [.scr ns, .lst L', .dat (par p0), s]) rfl rfl ⟨L, _, hL, rfl⟩ (by
    rintro d hd δ ⟨L1, s, hL1, rfl⟩
    obtain ⟨L2, hL2, cr⟩ := right_ok hL1 n
    refine ⟨[.scr ns, .lst L1, .dat (par p0), .dat d], [.scr ns, .lst L2, .dat (par p0), .dat d], .dat (.bool true), _, rfl, ?_, rfl, L2, _, hL2, rfl⟩
    generalize evF tbl (n + 9) = call at cr ⊢
    simp [cr])
  have e : compS (evF tbl (n + 9)) [3] (.nm 3) (.range1 (.cst (.int 5))) .nil (.call s__5f_law_5f_right (.cons (.var 1) .nil)) [.scr ns, .lst L, .dat (.tuple [.tuple [.str s_box, .int 3], .tuple [.str s_gap, .int 1], .tuple [.str s_box, .int 2], .tuple [.str s_cut, .int 1, .int 7], .tuple [.str s_box, .int 4]]), .emp] = .ok (.own (.lst [.bool true, .bool true, .bool true, .bool true, .bool true])) [.scr ns, .lst L', .dat (.tuple [.tuple [.str s_box, .int 3], .tuple [.str s_gap, .int 1], .tuple [.str s_box, .int 2], .tuple [.str s_cut, .int 1, .int 7], .tuple [.str s_box, .int 4]]), .emp] := e
  have hA : biV .all [.lst [.bool true, .bool true, .bool true, .bool true, .bool true]] = some (.dat (.bool true)) := rfl
  have c1 : evF tbl (n + 9) s_breaking_5f_report [.dat (.tuple [.tuple [.str s_box, .int 3], .tuple [.str s_gap, .int 1], .tuple [.str s_box, .int 2], .tuple [.str s_cut, .int 1, .int 7], .tuple [.str s_box, .int 4]]), .dat (.int 2), .dat (.tuple [.int 3, .int 5]), .dat (.int 8)] = .ret (.dat (.tuple [.str s_7_20_1_20_10_3a__20_b3_20_g1_20_b2_20_c1_2f_7, .str s_4_20_0_20_2_3a__20_b4, .str s_all_20_2_20_12])) [.dat (.tuple [.tuple [.str s_box, .int 3], .tuple [.str s_gap, .int 1], .tuple [.str s_box, .int 2], .tuple [.str s_cut, .int 1, .int 7], .tuple [.str s_box, .int 4]]), .dat (.int 2), .dat (.tuple [.int 3, .int 5]), .dat (.int 8)] := c1
  have c2 : evF tbl (n + 9) s_best_5f_report [.dat (.tuple [.tuple [.str s_box, .int 9]]), .dat (.int 0), .dat (.int 5)] = .ret (.dat (.tuple [.str s_narrow_20__2d_])) [.dat (.tuple [.tuple [.str s_box, .int 9]]), .dat (.int 0), .dat (.int 5)] := c2
  refine ⟨[.scr ns], ?_⟩
  refine (run_of (F := f_law) (fl := .ret (.dat (.bool true)) [.scr ns, .lst L', .dat (.tuple [.tuple [.str s_box, .int 3], .tuple [.str s_gap, .int 1], .tuple [.str s_box, .int 2], .tuple [.str s_cut, .int 1, .int 7], .tuple [.str s_box, .int 4]]), .emp]) rfl rfl (by simp [f_law]) ?_).trans rfl
  generalize evF tbl (n + 9) = call at c0 c1 c2 e ⊢
  simp [f_law, c0, c1, c2, hne1, hne2, e, hA]
end Pl

set_option Elab.async false
set_option linter.all false
set_option maxRecDepth 100000
set_option maxHeartbeats 0
namespace Hd
open PySem PySem.Spec PyProof.Rows L2 Ev Core88
abbrev RW := PySem.Challenge.rw_everymeasure_k88_whole_reports_of_breaki
def top (i : Nat) : Stmt := PySem.Challenge.pw_everymeasure_k88_whole_reports_of_breaki.main.body.getD i (.Pass ⟨0, 0, 0, 0⟩)
def GT : List (Str × PyData) := [("MOST_ITEMS", (.int 40)), ("MOST_WIDE", (.int 1000)), ("MOST_FEE", (.int 1000000)), ("BOX", (.str "box")), ("GAP", (.str "gap")), ("CUT", (.str "cut")), ("STOP", (.str "stop")), ("BEST", (.str "best")), ("NARROW", (.str "narrow")), ("BAR", (.str "/")), ("NOTHING", (.str "-"))]
def DT : List (Str × List (L2.Key × PyData)) := [("SIZES", [(.inr "box", (.int 2)), (.inr "gap", (.int 2)), (.inr "cut", (.int 3)), (.inr "stop", (.int 1))]), ("SIGNS", [(.inr "box", (.str "b")), (.inr "gap", (.str "g")), (.inr "cut", (.str "c")), (.inr "stop", (.str "s"))])]
def CT : List Str := ["NoBreaking", "NoFee", "NoMeasure", "NoParagraph"]
def G : Sx := ⟨tbl, GT, DT, CT, [], some ("_law_said", saidT)⟩
def sdd : SdD := ⟨"_law_said", "call", "error", "flags", "words", "MeasureError", "TooMany", ["NoBreaking", "NoFee", "NoMeasure", "NoParagraph"], ["many", "breaking", "fee", "measure", "paragraph"]⟩
def lam : List Str := ["_law_right"]
def d_is_integer : He.DefD := ⟨("is_integer", none), "is_integer", "is_integer", defArgs (top 1), defBody (top 1), defScope (top 1), [], []⟩
def d_is_within : He.DefD := ⟨("is_within", none), "is_within", "is_within", defArgs (top 2), defBody (top 2), defScope (top 2), [], []⟩
def d_is_number : He.DefD := ⟨("is_number", none), "is_number", "is_number", defArgs (top 3), defBody (top 3), defScope (top 3), [], []⟩
def d_is_sized : He.DefD := ⟨("is_sized", none), "is_sized", "is_sized", defArgs (top 4), defBody (top 4), defScope (top 4), [], []⟩
def d_check_measure : He.DefD := ⟨("check_measure", none), "check_measure", "check_measure", defArgs (top 13), defBody (top 13), defScope (top 13), [], []⟩
def d_is_item : He.DefD := ⟨("is_item", none), "is_item", "is_item", defArgs (top 23), defBody (top 23), defScope (top 23), [], []⟩
def d_is_paragraph : He.DefD := ⟨("is_paragraph", none), "is_paragraph", "is_paragraph", defArgs (top 24), defBody (top 24), defScope (top 24), [], []⟩
def d_check_paragraph : He.DefD := ⟨("check_paragraph", none), "check_paragraph", "check_paragraph", defArgs (top 25), defBody (top 25), defScope (top 25), [], []⟩
def d_is_fee : He.DefD := ⟨("is_fee", none), "is_fee", "is_fee", defArgs (top 26), defBody (top 26), defScope (top 26), [], []⟩
def d_check_fee : He.DefD := ⟨("check_fee", none), "check_fee", "check_fee", defArgs (top 27), defBody (top 27), defScope (top 27), [], []⟩
def d_raw_places : He.DefD := ⟨("raw_places", none), "raw_places", "raw_places", defArgs (top 28), defBody (top 28), defScope (top 28), [], []⟩
def d_raw_wide : He.DefD := ⟨("raw_wide", none), "raw_wide", "raw_wide", defArgs (top 29), defBody (top 29), defScope (top 29), [], []⟩
def d_raw_stops : He.DefD := ⟨("raw_stops", none), "raw_stops", "raw_stops", defArgs (top 30), defBody (top 30), defScope (top 30), [], []⟩
def d_is_breaking_of : He.DefD := ⟨("is_breaking_of", none), "is_breaking_of", "is_breaking_of", defArgs (top 31), defBody (top 31), defScope (top 31), [], []⟩
def d_ends_of : He.DefD := ⟨("ends_of", none), "ends_of", "ends_of", defArgs (top 32), defBody (top 32), defScope (top 32), [], []⟩
def d_line_width : He.DefD := ⟨("line_width", none), "line_width", "line_width", defArgs (top 33), defBody (top 33), defScope (top 33), [], []⟩
def d_raw_fee : He.DefD := ⟨("raw_fee", none), "raw_fee", "raw_fee", defArgs (top 34), defBody (top 34), defScope (top 34), [], []⟩
def d_is_free_end : He.DefD := ⟨("is_free_end", none), "is_free_end", "is_free_end", defArgs (top 35), defBody (top 35), defScope (top 35), [], []⟩
def d_has_stop : He.DefD := ⟨("has_stop", none), "has_stop", "has_stop", defArgs (top 36), defBody (top 36), defScope (top 36), [], []⟩
def d_raw_lines : He.DefD := ⟨("raw_lines", none), "raw_lines", "raw_lines", defArgs (top 37), defBody (top 37), defScope (top 37), [], []⟩
def d_raw_goes : He.DefD := ⟨("raw_goes", none), "raw_goes", "raw_goes", defArgs (top 38), defBody (top 38), defScope (top 38), [], []⟩
def d_line_lack : He.DefD := ⟨("line_lack", none), "line_lack", "line_lack", defArgs (top 39), defBody (top 39), defScope (top 39), [], []⟩
def d_line_cost : He.DefD := ⟨("line_cost", none), "line_cost", "line_cost", defArgs (top 40), defBody (top 40), defScope (top 40), [], []⟩
def d_raw_cost : He.DefD := ⟨("raw_cost", none), "raw_cost", "raw_cost", defArgs (top 41), defBody (top 41), defScope (top 41), [], []⟩
def d_cost_of : He.DefD := ⟨("cost_of", none), "cost_of", "cost_of", defArgs (top 42), defBody (top 42), defScope (top 42), [], []⟩
def d_check_asked : He.DefD := ⟨("check_asked", none), "check_asked", "check_asked", defArgs (top 43), defBody (top 43), defScope (top 43), [], []⟩
def d_lines_within : He.DefD := ⟨("lines_within", none), "lines_within", "lines_within", defArgs (top 47), defBody (top 47), defScope (top 47), [], []⟩
def d_costs_ahead : He.DefD := ⟨("costs_ahead", none), "costs_ahead", "costs_ahead", defArgs (top 48), defBody (top 48), defScope (top 48), [], []⟩
def d_costs_behind : He.DefD := ⟨("costs_behind", none), "costs_behind", "costs_behind", defArgs (top 49), defBody (top 49), defScope (top 49), [], []⟩
def d_least_breaking : He.DefD := ⟨("least_breaking", none), "least_breaking", "least_breaking", defArgs (top 50), defBody (top 50), defScope (top 50), [], []⟩
def d_come_to : He.DefD := ⟨("come_to", none), "come_to", "come_to", defArgs (top 51), defBody (top 51), defScope (top 51), [], []⟩
def d_raw_best : He.DefD := ⟨("raw_best", none), "raw_best", "raw_best", defArgs (top 52), defBody (top 52), defScope (top 52), [], []⟩
def d_best_told : He.DefD := ⟨("best_told", none), "best_told", "best_told", defArgs (top 53), defBody (top 53), defScope (top 53), [], []⟩
def d_item_text : He.DefD := ⟨("item_text", none), "item_text", "item_text", defArgs (top 57), defBody (top 57), defScope (top 57), [], []⟩
def d_items_line : He.DefD := ⟨("items_line", none), "items_line", "items_line", defArgs (top 60), defBody (top 60), defScope (top 60), [], []⟩
def d_line_report : He.DefD := ⟨("line_report", none), "line_report", "line_report", defArgs (top 61), defBody (top 61), defScope (top 61), [], []⟩
def d_raw_breaking_report : He.DefD := ⟨("raw_breaking_report", none), "raw_breaking_report", "raw_breaking_report", defArgs (top 62), defBody (top 62), defScope (top 62), [], []⟩
def d_breaking_report : He.DefD := ⟨("breaking_report", none), "breaking_report", "breaking_report", defArgs (top 63), defBody (top 63), defScope (top 63), [], []⟩
def d_best_report : He.DefD := ⟨("best_report", none), "best_report", "best_report", defArgs (top 64), defBody (top 64), defScope (top 64), [], []⟩
def d__law_hand : He.DefD := ⟨("_law_hand", none), "_law_hand", "_law_hand", defArgs (top 66), defBody (top 66), defScope (top 66), [], []⟩
def d__law_draw : He.DefD := ⟨("_law_draw", none), "_law_draw", "_law_draw", defArgs (top 67), defBody (top 67), defScope (top 67), [], []⟩
def d__law_any : He.DefD := ⟨("_law_any", none), "_law_any", "_law_any", defArgs (top 68), defBody (top 68), defScope (top 68), [], []⟩
def d__law_paragraph : He.DefD := ⟨("_law_paragraph", none), "_law_paragraph", "_law_paragraph", defArgs (top 69), defBody (top 69), defScope (top 69), [], []⟩
def d__law_item : He.DefD := ⟨("_law_item", none), "_law_item", "_law_item", defArgs (top 70), defBody (top 70), defScope (top 70), [], []⟩
def d__law_breaking : He.DefD := ⟨("_law_breaking", none), "_law_breaking", "_law_breaking", defArgs (top 72), defBody (top 72), defScope (top 72), [], []⟩
def d__law_report : He.DefD := ⟨("_law_report", none), "_law_report", "_law_report", defArgs (top 73), defBody (top 73), defScope (top 73), [], []⟩
def d__law_right : He.DefD := ⟨("_law_right", none), "_law_right", "_law_right", defArgs (top 74), defBody (top 74), defScope (top 74), [], []⟩
def d_law : He.DefD := ⟨("law", none), "law", "law", defArgs (top 75), defBody (top 75), defScope (top 75), [], []⟩
def d__law_said : He.DefD := ⟨("_law_said", none), "_law_said", "_law_said", defArgs (top 71), defBody (top 71), defScope (top 71), [], []⟩
def fn : List He.DefD := [d_is_integer, d_is_within, d_is_number, d_is_sized, d_check_measure, d_is_item, d_is_paragraph, d_check_paragraph, d_is_fee, d_check_fee, d_raw_places, d_raw_wide, d_raw_stops, d_is_breaking_of, d_ends_of, d_line_width, d_raw_fee, d_is_free_end, d_has_stop, d_raw_lines, d_raw_goes, d_line_lack, d_line_cost, d_raw_cost, d_cost_of, d_check_asked, d_lines_within, d_costs_ahead, d_costs_behind, d_least_breaking, d_come_to, d_raw_best, d_best_told, d_item_text, d_items_line, d_line_report, d_raw_breaking_report, d_breaking_report, d_best_report, d__law_hand, d__law_draw, d__law_any, d__law_paragraph, d__law_item, d__law_breaking, d__law_report, d__law_right, d_law, d__law_said]
def sd : List Str := ["_law_said", "MeasureError", "TooMany", "NoBreaking", "NoFee", "NoMeasure", "NoParagraph"]
def more : PySem.W.Frag → Bool := moreOf sdd saidT
def loose : List PySem.Str := (["is_integer", "is_within", "is_number", "is_sized", "MeasureError", "NoBreaking", "NoFee", "NoMeasure", "NoParagraph", "TooMany", "check_measure", "MOST_ITEMS", "MOST_WIDE", "MOST_FEE", "BOX", "GAP", "CUT", "STOP", "SIZES", "is_item", "is_paragraph", "check_paragraph", "is_fee", "check_fee", "raw_places", "raw_wide", "raw_stops", "is_breaking_of", "ends_of", "line_width"] : List PySem.Str) ++ (["raw_fee", "is_free_end", "has_stop", "raw_lines", "raw_goes", "line_lack", "line_cost", "raw_cost", "cost_of", "check_asked", "BEST", "NARROW", "lines_within", "costs_ahead", "costs_behind", "least_breaking", "come_to", "raw_best", "best_told", "BAR", "SIGNS", "item_text", "NOTHING", "items_line", "line_report", "raw_breaking_report", "breaking_report", "best_report", "_law_hand", "_law_draw"] : List PySem.Str) ++ (["_law_any", "_law_paragraph", "_law_item", "_law_said", "_law_breaking", "_law_report", "_law_right"] : List PySem.Str)
abbrev R : PySem.W.OpenRow := PySem.W.OpenLaw.row RW
abbrev tf : List He.Defn := lam.map fun f => (f, none)
abbrev hk : PySem.W.Hook := He.hookX 4 (faOf G sd) fn (tsOf G) tf (exOf G more)
def ob (s : PySem.W.SharedT) : He.AlX := He.obsX 4 (faOf G sd) fn (tsOf G) tf (exOf G more) (HandSHeadRun.getT s)
theorem ob_eq (s : PySem.W.SharedT) : ob s = hk.obs s.abs := He.obsX_eq (HandSHeadRun.getT_eq s)
theorem run (w : World) : HandSHeadRun.RunEq R (PySem.W.view R.prog [75]) hk ob 40000 loose w := PySem.W.byRow2 "special-get-raises" (P := fun w => HandSHeadRun.RunEq R (PySem.W.view R.prog [75]) hk ob 40000 loose w) (fun w => by intro os; kernel_rfl) (fun w => by intro os; kernel_rfl) w
theorem texts : tblB G lam G.T fn = true := by decide +kernel
end Hd
open PySem PySem.W PySem.Calls PyProof.Rows
theorem Hd.holds_of {Fd : Ev.Fn} {N n : Nat} (hn : Hd.RW.most = some n) (hn2 : n ≤ sizeLine) (hr : L2.Room (3 * N) callerA) (hl : Hd.G.T.lookup ("law" : PySem.Str) = some Fd) (hp : Fd.names.take Fd.np = [("script" : PySem.Str)])
    (hE : ∀ ns : List Int, ns.length ≤ n → ∃ back, Ev.evF Hd.G.T N "law" [.scr ns] = .ret (.dat (.bool true)) back) : Hd.RW.Holds := by
  w_on; o_law
  refine HandSHeadRun.head_any (r := OpenLaw.row Hd.RW) (q := view (OpenLaw.row Hd.RW).prog [75]) (H := Hd.hk) (ob := Hd.ob) (M := 40000) (loose := Hd.loose) (d := HandSHeadRun.topDef (OpenLaw.row Hd.RW).prog 75) (kwd := []) Hd.ob_eq
    (by kernel_rfl) (fun s => by kernel_rfl) Hd.run (by kernel_rfl) (by kernel_rfl) (by kernel_rfl) (by rfl) (by first | assumption | decide +kernel) (by decide +kernel) ⟨rfl, rfl, rfl, rfl, rfl, by decide +kernel⟩ ?hw ?hc
  case hw => w_witness2
  case hc =>
    refine LamX.walk_ofTsE (l := Hd.RW) (n := n) (k := 3 * N) (x := "script") (CX := fun w => L2.CX Hd.RW.prog w) hn hn2 (by kernel_rfl) hr ?F (fun w H s e s' z => by
      obtain ⟨_, _, _, _, _, _, _, _, _, _, _, _, z⟩ := z
      exact z.elim)
    intro w mg fa h Y G hmg0
    obtain ⟨K, KX, c⟩ := Y
    have hmg : mg ("law" : PySem.Str) = some (.ref fa) := by
      have e : (HandSHeadRun.topDef (OpenLaw.row Hd.RW).prog 75).name = ("law" : PySem.Str) := by kernel_rfl
      rw [← e]
      exact hmg0
    refine ⟨K, KX, Ev.law_at (G := Hd.G) (sd := Hd.sd) (lam := Hd.lam) (fn := Hd.fn) (more := Hd.more) KX G c Hd.texts (by decide +kernel) (fun f hf g hg _ => ?_) (fun f tbl e => ?_) hl hp hmg hE⟩
    · have hf : f ∈ [("_law_right" : PySem.Str)] := hf
      have hg : g ∈ [("_law_right" : PySem.Str)] := hg
      first
        | (cases List.mem_singleton.mp hf; cases List.mem_singleton.mp hg; rfl)
        | cases hf
    · have e : some (("_law_said" : PySem.Str), Core88.saidT) = some (f, tbl) := e
      cases e
      exact Ev.said_of (s := Hd.sdd) (d := Hd.d__law_said) (fn := Hd.fn) (fa := Ev.faOf Hd.G Hd.sd) KX G c.t.d (by unfold Hd.fn; simp) (by decide +kernel) (Bool.and_eq_true_iff.mp c.more).2 (fun x hx => Ev.fa_sd (by revert x; decide +kernel)) ⟨Ev.fa_free (by decide), Ev.fa_free (by decide)⟩

open PySem PySem.W PyProof.Rows
set_option Elab.async false
set_option maxRecDepth 100000 in
set_option maxHeartbeats 0 in
theorem PySem.Challenge.cw_everymeasure_k88_whole_reports_of_breaki_holds : PySem.Challenge.rw_everymeasure_k88_whole_reports_of_breaki.Holds := by
  refine Hd.holds_of (N := 10) (n := 63) rfl (by decide) ⟨by decide, by decide, by decide⟩ (Fd := Core88.f_law) (by rfl) (by rfl) ?_
  intro ns _
  exact Pl.law_ok ns 0
