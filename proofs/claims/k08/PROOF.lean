import PyProof.Rows.All
import Wide.All
import OpenK.AllK
import Wide.FinOn
import HandS.ForMost
import HandS.DictComp
import HandS.DictTup
import HandS.Wide
import KE.KEqDict
import HandS.Style
import HandS.Remove
import KE.GoesMore
import KE.KTupSum
import KE.DataFind
import HandS.TupAny
import HandS.IsInst
import HandS.Flow
import HandS.FStr
import HandS.Conv
import HandS.Deep
import HandS.Codes
import HandS.WordsExc
import HandS.ForExc
import KE.SortData
import KE.SortKeyHeap
import HandS.SetFor
import HandS.ExcCtx
import HandS.HotCalls
import KE.KStateDown
import HandS.Defaults
import HandS.Head0
import HandS.Head1
import HandS.Head2
import HandS.HeadEnd
import HandS.HeadHook1
import HandS.HeadHook2
import KE.KDictCopyH
import HandS.Dict
import HandS.Text
import HandS.SortKw
import KE.KExcSuper
import HandS.ExcInit
import HandS.ExcField
import HandS.TryMany
import PySem.Challenge.RW_homingtrue_k08_clocks_are_checked
set_option Elab.async false
set_option linter.all false
set_option maxRecDepth 100000
set_option maxHeartbeats 4000000
/-! MI1: a small deterministic reading of Python over data trees and a store of cells -/
namespace MI
open PySem PySem.Spec L2
/-- data: frozen trees; con: a tuple of the module's text; scr: the script; ptr: a cell of the store -/
inductive D where
  | non | bl (b : Bool) | int (i : Int) | str (s : Str)
  | tup (ds : List D) | lst (ds : List D) | con (ds : List D) | scr (ds : List D) | ptr (n : Nat)
  deriving Inhabited
inductive Cell where
  | dead
  | lst (ds : List D)
  | lkl (ds : List D)
  | dK (kvs : List (Key × D))
  | dT (kvs : List (List Key × D))
  | lkd (kvs : List (Key × D))
  | lkt (kvs : List (List Key × D))
  | ins (c : Str) (fs : List (Str × D))
  deriving Inhabited
abbrev Store := List Cell
abbrev MEnv := List (Option D)
inductive Rs (α : Type) where
  | ok (a : α) (S : Store)
  | ex (c : Str) (fs : List (Str × D)) (S : Store)
  | stuck
def Rs.bind {α β : Type} (r : Rs α) (f : α → Store → Rs β) : Rs β :=
  match r with
  | .ok a S => f a S
  | .ex c fs S => .ex c fs S
  | .stuck => .stuck
def Rs.of {α : Type} (o : Option α) (S : Store) : Rs α :=
  match o with
  | some a => .ok a S
  | none => .stuck
abbrev Fn := List D → Store → Rs D
/-! ### data -/
mutual
/-- no pointer, depth at most n -/
def D.fit : D → Nat → Bool
  | .non, _ => true
  | .bl _, _ => true
  | .int _, _ => true
  | .str s, _ => PySem.PyData.strOk s
  | .tup ds, n => (match n with | 0 => false | n + 1 => fitL ds n)
  | .lst ds, n => (match n with | 0 => false | n + 1 => fitL ds n)
  | .con _, _ => false
  | .scr _, _ => false
  | .ptr _, _ => false
def fitL : List D → Nat → Bool
  | [], _ => true
  | d :: ds, n => d.fit n && fitL ds n
end
mutual
/-- every pointer below n -/
def D.lt : D → Nat → Bool
  | .non, _ => true
  | .bl _, _ => true
  | .int _, _ => true
  | .str _, _ => true
  | .tup ds, n => ltL ds n
  | .lst ds, n => ltL ds n
  | .con ds, n => ltL ds n
  | .scr ds, n => ltL ds n
  | .ptr m, n => decide (m < n)
def ltL : List D → Nat → Bool
  | [], _ => true
  | d :: ds, n => d.lt n && ltL ds n
end
mutual
def D.py : D → PyData
  | .non => .none
  | .bl b => .bool b
  | .int i => .int i
  | .str s => .str s
  | .tup ds => .tuple (pyL ds)
  | .lst ds => .list (pyL ds)
  | .con ds => .tuple (pyL ds)
  | .scr ds => .list (pyL ds)
  | .ptr _ => .none
def pyL : List D → List PyData
  | [] => []
  | d :: ds => d.py :: pyL ds
end
mutual
/-- Python's ==, where it is plain: none where a bool meets an int -/
def eqD : D → D → Option Bool
  | .non, y => (match y with | .non => some true | .ptr _ => none | .con _ => none | .scr _ => none | _ => some false)
  | .bl a, y => (match y with | .bl b => some (a == b) | .int _ => none | .ptr _ => none | .con _ => none | .scr _ => none | _ => some false)
  | .int a, y => (match y with | .int b => some (a == b) | .bl _ => none | .ptr _ => none | .con _ => none | .scr _ => none | _ => some false)
  | .str a, y => (match y with | .str b => some (a == b) | .ptr _ => none | .con _ => none | .scr _ => none | _ => some false)
  | .tup xs, y => (match y with | .tup ys => eqL xs ys | .ptr _ => none | .con _ => none | .scr _ => none | _ => some false)
  | .lst xs, y => (match y with | .lst ys => eqL xs ys | .ptr _ => none | .con _ => none | .scr _ => none | _ => some false)
  | .con _, _ => none
  | .scr _, _ => none
  | .ptr _, _ => none
def eqL : List D → List D → Option Bool
  | [], ys => (match ys with | [] => some true | _ :: _ => some false)
  | x :: xs, ys => (match ys with
    | [] => some false
    | y :: ys => (match eqD x y with
      | some b => (match eqL xs ys with | some c => some (b && c) | none => none)
      | none => none))
end
def flatD : D → Bool
  | .non => true
  | .bl _ => true
  | .int _ => true
  | .str _ => true
  | _ => false
/-- x == y: both without pointers -/
def eqv (x y : D) : Option Bool := if (flatD x && flatD y) || (x.fit 50 && y.fit 50) then eqD x y else none
def toKey : D → Option Key
  | .int i => some (.inl i)
  | .str s => some (.inr s)
  | _ => none
def toKeys : List D → Option (List Key)
  | [] => some []
  | d :: ds => (match toKey d, toKeys ds with | some k, some ks => some (k :: ks) | _, _ => none)
def kD : Key → D
  | .inl i => .int i
  | .inr s => .str s
section
variable {κ : Type} [DecidableEq κ]
def valD (kvs : List (κ × D)) (k : κ) : Option D := (kvs.find? fun kv => decide (kv.1 = k)).map (·.2)
def putD (kvs : List (κ × D)) (k : κ) (v : D) : List (κ × D) :=
  if (kvs.any fun kv => decide (kv.1 = k)) = true then kvs.map (fun kv => if kv.1 = k then (kv.1, v) else kv) else kvs ++ [(k, v)]
end
/-! ### reading -/
/-- the items of what is a list or a tuple -/
def seqOf (d : D) (S : Store) : Option (List D) :=
  match d with
  | .lst ds => some ds
  | .tup ds => some ds
  | .con ds => some ds
  | .scr ds => some ds
  | .ptr n => (match S[n]? with
    | some (.lst ds) => some ds
    | some (.lkl ds) => some ds
    | _ => none)
  | _ => none
def dPut (d k v : D) (S : Store) : Option Store :=
  match d with
  | .ptr n => if v.lt n then (match S[n]? with
    | some (.dK kvs) => if kvs.length < 1000000 then (toKey k).map (fun k => S.set n (.dK (putD kvs k v))) else none
    | some (.dT kvs) => if kvs.length < 1000000 then (match k with | .tup ks => (toKeys ks).map (fun k => S.set n (.dT (putD kvs k v))) | _ => none) else none
    | _ => none) else none
  | _ => none
inductive BOp where | add | sub | mul | fdiv | mod | pow
  deriving DecidableEq
inductive COp where | eq | ne | lt | le | gt | ge | inn | notin
  deriving DecidableEq
inductive BFn where | abs | max2 | min2 | int | len | tuple | sum | any | all | ord | str | max1 | maxK | isList | isTuple | isBool | isStr | isInt | isLT
  deriving DecidableEq
def sm64 (i : Int) : Bool := decide (i.natAbs < 18446744073709551616)
def mulOk (i j : Int) : Bool := sm64 i || sm64 j || decide (i.natAbs.log2 + j.natAbs.log2 < 1000000)
def divOk (j : Int) : Bool := decide (j.natAbs.log2 < 9000)
def binD (op : BOp) (x y : D) (S : Store) : Option D :=
  match op with
  | .add => (match x with
    | .int i => (match y with | .int j => some (.int (i + j)) | _ => none)
    | .str a => (match y with | .str b => if a.length + b.length ≤ 1000000 then some (.str (a ++ b)) else none | _ => none)
    | .tup a => (match y with | .tup b => if a.length + b.length ≤ 1000000 then some (.tup (a ++ b)) else none | _ => none)
    | .lst a => (match y with
      | .lst b => if a.length + b.length ≤ 1000000 then some (.lst (a ++ b)) else none
      | .ptr m => (match S[m]? with | some (.lst b) => if a.length + b.length ≤ 1000000 then some (.lst (a ++ b)) else none | _ => none)
      | _ => none)
    | .ptr n => (match S[n]? with
      | some (.lst a) => (match y with
        | .lst b => if a.length + b.length ≤ 1000000 then some (.lst (a ++ b)) else none
        | .ptr m => (match S[m]? with | some (.lst b) => if a.length + b.length ≤ 1000000 then some (.lst (a ++ b)) else none | _ => none)
        | _ => none)
      | _ => none)
    | _ => none)
  | .sub => (match x with | .int i => (match y with | .int j => some (.int (i - j)) | _ => none) | _ => none)
  | .mul => (match x with
    | .int i => (match y with | .int j => if mulOk i j then some (.int (i * j)) else none | _ => none)
    | .str a => (match y with | .int j => if a.length ≤ 1000 ∧ -1000 ≤ j ∧ j ≤ 1000 then some (.str (Txt.mul a j)) else none | _ => none)
    | .lst a => (match y with | .int j => if a.length * j.toNat ≤ 1000000 ∧ -1000 ≤ j ∧ j ≤ 1000 then some (.lst (List.replicate j.toNat a).flatten) else none | _ => none)
    | _ => none)
  | .fdiv => (match x with | .int i => (match y with | .int j => if divOk j then (if 0 < j then some (.int (i / j)) else if j < 0 then some (.int (i.fdiv j)) else none) else none | _ => none) | _ => none)
  | .mod => (match x with | .int i => (match y with | .int j => if 0 < j then some (.int (i % j)) else none | _ => none) | _ => none)
  | .pow => (match x with | .int i => (match y with | .int j => if 0 ≤ j ∧ j ≤ 1000 ∧ i.natAbs < 18446744073709551616 then some (.int (i ^ j.toNat)) else none | _ => none) | _ => none)
def dGet (d k : D) (S : Store) : Option (Option D) :=
  match d with
  | .ptr n => (match S[n]? with
    | some (.dK kvs) => (toKey k).map (valD kvs)
    | some (.lkd kvs) => (toKey k).map (valD kvs)
    | some (.dT kvs) => (match k with | .tup ks => (toKeys ks).map (valD kvs) | _ => none)
    | some (.lkt kvs) => (match k with | .tup ks => (toKeys ks).map (valD kvs) | _ => none)
    | _ => none)
  | _ => none
def isDict (d : D) (S : Store) : Bool :=
  match d with
  | .ptr n => (match S[n]? with
    | some (.dK _) => true
    | some (.lkd _) => true
    | some (.dT _) => true
    | some (.lkt _) => true
    | _ => false)
  | _ => false
def isLst : D → Bool
  | .lst _ => true
  | .ptr _ => true
  | _ => false
/-- y in xs, item by item -/
def memD (x : D) : List D → Option Bool
  | [] => some false
  | y :: ys => (match eqD y x with
    | some b => (match memD x ys with | some c => some (b || c) | none => none)
    | none => none)
def cmpI (op : COp) (i j : Int) : Option Bool :=
  match op with
  | .lt => some (decide (i < j))
  | .le => some (decide (i ≤ j))
  | .gt => some (decide (j < i))
  | .ge => some (decide (j ≤ i))
  | _ => none
def strIn (x y : Str) : Bool := !(Builtin.Str.occurrences y x 0 y.length 1).isEmpty
/-- the items of a dict, held against another's -/
def eqKv (kb : List (Key × D)) : List (Key × D) → Option Bool
  | [] => some true
  | (k, d) :: r => (match valD kb k with
    | none => some false
    | some e => if d.fit 50 && e.fit 50 then (match eqD d e with
        | some b1 => (match eqKv kb r with
          | some b2 => some (b1 && b2)
          | none => none)
        | none => none) else none)
def eqDict (n : Nat) (y : D) (S : Store) : Option Bool := match y with
  | .ptr m => (match S[n]? with
    | some (.dK ka) => (match S[m]? with
      | some (.dK kb) => if ka.length = kb.length then eqKv kb ka else some false
      | _ => none)
    | _ => none)
  | _ => none
/-- x == y, data or dicts -/
def eqX (x y : D) (S : Store) : Option Bool := match x with
  | .ptr n => eqDict n y S
  | _ => eqv x y
def cmpD (op : COp) (x y : D) (S : Store) : Option Bool :=
  match op with
  | .eq => eqX x y S
  | .ne => (eqX x y S).map (!·)
  | .inn => if isDict y S then (dGet y x S).map (·.isSome) else (match y with
    | .str s => (match x with | .str c => some (strIn c s) | _ => none)
    | _ => (match seqOf y S with | some ds => if (flatD x && ds.all flatD) || (isLst y && (x.fit 50 && fitL ds 50)) then memD x ds else none | none => none))
  | .notin => if isDict y S then (dGet y x S).map (fun o => !o.isSome) else (match y with
    | .str s => (match x with | .str c => some (!strIn c s) | _ => none)
    | _ => (match seqOf y S with | some ds => if (flatD x && ds.all flatD) || (isLst y && (x.fit 50 && fitL ds 50)) then (memD x ds).map (!·) else none | none => none))
  | op => (match x with | .int i => (match y with | .int j => cmpI op i j | _ => none) | _ => none)
def isNon (d : D) (S : Store) : Option Bool :=
  match d with
  | .non => some true
  | .ptr n => (match S[n]? with
    | some .dead => none
    | some _ => some false
    | none => none)
  | _ => some false
def asInts : List D → Option (List Int)
  | [] => some []
  | d :: ds => (match d with | .int i => (asInts ds).map (i :: ·) | _ => none)
def asStrs : List D → Option (List Str)
  | [] => some []
  | d :: ds => (match d with | .str i => (asStrs ds).map (i :: ·) | _ => none)
/-- the texts, one behind the other -/
def joinD (s : Str) (o : Option (List D)) : Option D :=
  match o with
  | none => none
  | some ds => (match asStrs ds with
    | none => none
    | some ys => if (ys.map (·.length)).sum + ys.length * s.length ≤ 1000000 then some (.str (Txt.join s ys)) else none)
def asBls : List D → Option (List Bool)
  | [] => some []
  | d :: ds => (match d with | .bl i => (asBls ds).map (i :: ·) | _ => none)
def lenD (d : D) (S : Store) : Option Nat :=
  match d with
  | .str s => if s.length ≤ 1000000 then some s.length else none
  | .ptr n => (match S[n]? with
    | some (.dK kvs) => some kvs.length
    | some (.lkd kvs) => some kvs.length
    | _ => (seqOf (.ptr n) S).map List.length)
  | d => (seqOf d S).map List.length
/-- the kind of a datum: 0 none, 1 bool, 2 int, 3 str, 4 tuple, 5 list -/
def kindD (d : D) (S : Store) : Option Nat :=
  match d with
  | .non => some 0
  | .bl _ => some 1
  | .int _ => some 2
  | .str _ => some 3
  | .tup _ => some 4
  | .lst _ => some 5
  | .con _ => none
  | .scr _ => none
  | .ptr n => (match S[n]? with
    | some (.lst _) => some 5
    | _ => none)
/-- the keys of a dict, whole numbers all -/
def intKeys : List (Key × D) → Option (List Int)
  | [] => some []
  | kv :: l => (match kv.1 with | .inl i => (intKeys l).map (i :: ·) | _ => none)
def srtdM (x : D) (S : Store) : Rs (List D) := match x with
  | .ptr n => (match S[n]? with
    | some (.dK kvs) => (match intKeys kvs with
      | some ks => if ks.length < 64 then .ok ((ks.mergeSort fun a b => decide (a ≤ b)).map .int) S else .stuck
      | none => .stuck)
    | _ => .stuck)
  | _ => .stuck
/-- how often a number stands in a list -/
def cntD (ds : List D) (d : D) : Option D := match d with
  | .int k => (asInts ds).map fun ns => .int (ns.count k : Nat)
  | _ => none
def isLstD : D → Bool
  | .lst _ => true
  | _ => false
def cntM (x d : D) : Option D := match x with
  | .lst ds => cntD ds d
  | _ => none
def bi1 (f : BFn) (x : D) (S : Store) : Option D :=
  match f with
  | .abs => (match x with | .int i => some (.int (if i < 0 then -i else i)) | _ => none)
  | .int => (match x with | .int i => some (.int i) | .bl b => some (.int (if b then 1 else 0)) | .str a => (if a.length ≤ 640 then (match PySem.intText? a with | some n => some (.int n) | none => none) else none) | _ => none)
  | .str => (match x with | .int i => if i.natAbs.log2 < 1920 then some (.str (toString i)) else none | _ => none)
  | .ord => (match x with | .str a => if a.length = 1 then some (.int (a.cps.getD 0 0 : Nat)) else none | _ => none)
  | .len => (lenD x S).map fun (n : Nat) => D.int (n : Int)
  | .tuple => (match x with | .con _ => none | x => (seqOf x S).map .tup)
  | .sum => (seqOf x S).bind fun ds => (match x with | .con _ => none | _ => (asInts ds).map fun ns => .int ns.sum)
  | .any => (seqOf x S).bind fun ds => (match x with | .tup _ => none | .con _ => none | _ => (asBls ds).map fun bs => .bl (bs.any id))
  | .all => (seqOf x S).bind fun ds => (match x with | .tup _ => none | .con _ => none | _ => (asBls ds).map fun bs => .bl (bs.all id))
  | .max1 => (seqOf x S).bind fun ds => (match x with | .tup _ => none | .con _ => none | _ => (asInts ds).bind fun ns => (ns.max?).map .int)
  | .maxK => (match x with | .ptr n => (match S[n]? with | some (.dK kvs) => (intKeys kvs).bind fun ks => (ks.max?).map .int | _ => none) | _ => none)
  | .isList => (kindD x S).map fun k => .bl (k == 5)
  | .isTuple => (kindD x S).map fun k => .bl (k == 4)
  | .isBool => (kindD x S).map fun k => .bl (k == 1)
  | .isStr => (kindD x S).map fun k => .bl (k == 3)
  | .isInt => (kindD x S).map fun k => .bl (k == 1 || k == 2)
  | _ => none
def bi2 (f : BFn) (x y : D) : Option D :=
  match f with
  | .max2 => (match x with | .int i => (match y with | .int j => some (.int (if j > i then j else i)) | _ => none) | _ => none)
  | .min2 => (match x with | .int i => (match y with | .int j => some (.int (if j < i then j else i)) | _ => none) | _ => none)
  | _ => none
def biD (f : BFn) (ds : List D) (S : Store) : Option D :=
  match ds with
  | [x] => bi1 f x S
  | [x, y] => bi2 f x y
  | _ => none
def ixD (x i : D) (S : Store) : Option D :=
  if isDict x S then (match dGet x i S with | some (some v) => some v | _ => none) else match i with
  | .int k => (match x with
    | .str z => if z.length ≤ 1000000 then (atI z.cps.toList k).map fun c => .str ⟨#[c]⟩ else none
    | x => (seqOf x S).bind fun ds => atI ds k)
  | _ => none
def cutD (xs : List D) (lo hi : Option Int) : List D := (xs.drop (HT.sIx xs.length 0 lo)).take (HT.sIx xs.length xs.length hi - HT.sIx xs.length 0 lo)
/-- a list of data or a list that changes -/
def dsOf (d : D) (S : Store) : Option (List D) := match d with
  | .lst ds => some ds
  | .ptr n => (match S[n]? with | some (.lst ds) => some ds | _ => none)
  | _ => none
/-- a slice of a tuple, a list or a text -/
def slD (x : D) (lo hi : Option Int) (S : Store) : Option D :=
  match x with
  | .tup ds => some (.tup (cutD ds lo hi))
  | .lst ds => some (.lst (cutD ds lo hi))
  | .ptr n => (match S[n]? with | some (.lst ds) => some (.lst (cutD ds lo hi)) | some (.lkl ds) => some (.lst (cutD ds lo hi)) | _ => none)
  | .str z => if z.length ≤ 1000000 then some (.str (Txt.slice z lo hi)) else none
  | _ => none
/-! ### the compact text -/
inductive Tg where
  | name (i : Nat)
  | tup (is : List Nat)
mutual
inductive CE where
  | var (i : Nat)
  | frz (i : Nat)
  | non | bl (b : Bool) | int (i : Int) | str (s : Str)
  | glob (x : Str) (d : D)
  | bin (op : BOp) (a b : CE)
  | neg (a : CE) | not (a : CE)
  | band (es : CEs) | bor (es : CEs)
  | cmp (op : COp) (a b : CE)
  | chain (op op' : COp) (a b c : CE)
  | isN (a : CE) | notN (a : CE)
  | ite (c a b : CE)
  | call (x : Str) (g : Fn) (es : CEs)
  | bi (f : BFn) (es : CEs)
  | tup (es : CEs)
  | new (m : Bool) (l : CL)
  | dnew (t : Bool)
  | dcomp (own : List (Str × Nat)) (t : Tg) (it : CI) (c : CO) (k v : CE)
  | dgetd (a b c : CE)
  | cnt (a b : CE)
  | join (a b : CE)
  | ix (a b : CE)
  | sl (a : CE) (lo hi : CO)
inductive CO where
  | none
  | some (e : CE)
inductive CEs where
  | nil
  | cons (e : CE) (es : CEs)
inductive CL where
  | disp (es : CEs)
  | comp (own : List (Str × Nat)) (t : Tg) (it : CI) (c : CO) (elt : CE)
  | sorted (e : CE)
  | sortk (e : CE) (x : Str) (g : Fn)
  | list (e : CE)
  | rev (e : CE)
  | lrng (a b : CE)
  | stp (e : CE) (k : Nat)
  | cat (a b : CE)
  | keys (e : CE)
  | srtd (e : CE)
inductive CI where
  | seq (e : CE)
  | rng1 (a : CE)
  | rng2 (a b : CE)
  | rng3 (a b c : CE)
  | enum (e : CE)
  | text (e : CE)
  | cell (i : Nat)
  | cellE (e : CE)
end
/-! ### its reading -/
/-- a place that a name, or an item of it, tells -/
def pathD : CE → MEnv → Store → Option D
  | .var i, ρ, _ => (match ρ[i]? with | some o => o | none => none)
  | .ix a b, ρ, S => (match b with | .int j => (pathD a ρ S).bind fun x => ixD x (.int j) S | _ => none)
  | _, _, _ => none
def setT (t : Tg) (d : D) (ρ : MEnv) : Option MEnv :=
  match t with
  | .name i => some (ρ.set i (some d))
  | .tup is => (match d with
    | .tup ds => if ds.length = is.length then some ((is.zip ds).foldl (fun ρ p => ρ.set p.1 (some p.2)) ρ) else none
    | _ => none)
def wipeE (ρ : MEnv) : List Nat → MEnv
  | [] => ρ
  | v :: vs => (wipeE ρ vs).set v none
/-- a cell that is walked is locked meanwhile -/
def unl (l : Option (Nat × Cell)) (S : Store) : Option Store :=
  match l with
  | none => some S
  | some (n, c) => (match S[n]? with
    | some (.lkl _) => some (S.set n c)
    | some (.lkd _) => some (S.set n c)
    | some (.lkt _) => some (S.set n c)
    | _ => none)
def lockC (d : D) (S : Store) : Store × Option (Nat × Cell) :=
  match d with
  | .ptr n => (match S[n]? with
    | some (.lst ds) => (S.set n (.lkl ds), some (n, .lst ds))
    | some (.dK kvs) => (S.set n (.lkd kvs), some (n, .dK kvs))
    | some (.dT kvs) => (S.set n (.lkt kvs), some (n, .dT kvs))
    | _ => (S, none))
  | _ => (S, none)
def iterD (d : D) : Option (List D) :=
  match d with
  | .lst ds => some ds
  | .tup ds => some ds
  | .con ds => some ds
  | _ => none
def iterL (d : D) : Option (List D) := match d with | .lst ds => some ds | .tup ds => some ds | _ => none
def iterC (d : D) (S : Store) : Option (List D) :=
  match d with
  | .ptr n => (match S[n]? with
    | some (.lkl ds) => some ds
    | some (.lkd kvs) => some (kvs.map fun kv => kD kv.1)
    | some (.lkt kvs) => some (kvs.map fun kv => .tup (kv.1.map kD))
    | _ => none)
  | _ => none
def iterCL (d : D) (S : Store) : Option (List D) :=
  match d with
  | .ptr n => (match S[n]? with
    | some (.lkl ds) => some ds
    | _ => none)
  | _ => none
def rangeD (lo hi : Int) : List D := (List.range (hi - lo).toNat).map fun i => .int (lo + (i : Nat))
def small62 (i : Int) : Bool := decide (-(2 ^ 60) ≤ i ∧ i < 2 ^ 60)
def rangeC (lo c : Int) (n : Nat) : List D := (List.range n).map fun i => .int (lo + (i : Nat) * c)
def lrngM (x y : D) (S : Store) : Rs (List D) := match x with
  | .int i => (match y with
    | .int j => if small62 i && (small62 j && decide ((j - i).toNat ≤ 1000000)) then .ok (rangeD i j) S else .stuck
    | _ => .stuck)
  | _ => .stuck
/-- each k-th item -/
def stepL (k : Nat) (ds : List D) : List D := (PySem.sliceRange (PySem.sliceBounds none none (some (k : Int)) ds.length).1 (PySem.sliceBounds none none (some (k : Int)) ds.length).2.1 (PySem.sliceBounds none none (some (k : Int)) ds.length).2.2).filterMap (ds[·]?)
def stpM (k : Nat) (x : D) (S : Store) : Rs (List D) := match x with
  | .lst ds => if 0 < k then .ok (stepL k ds) S else .stuck
  | _ => .stuck
/-- the numbers of a range with a step -/
def rngD3 (x y z : D) (S : Store) : Rs (List D) :=
  match x, y, z with
  | .int i, .int j, .int c => if decide (c ≠ 0 ∧ c.natAbs < 1073741824 ∧ Builtin.Range.small i j c = true ∧ 0 ≤ Builtin.Range.rangeSize i j c) then .ok (rangeC i c (Builtin.Range.rangeSize i j c).toNat) S else .stuck
  | _, _, _ => .stuck
def enumD (ds : List D) : List D := (List.range ds.length).zip ds |>.map fun p => .tup [.int (p.1 : Nat), p.2]
/-- the comprehension's loop -/
def compL (f : D → Store → Rs (Option D)) : List D → List D → Store → Rs (List D)
  | [], acc, S => .ok acc S
  | d :: ds, acc, S => (f d S).bind fun o S1 => (match o with
    | some y => if acc.length < 1000000 then compL f ds (acc ++ [y]) S1 else .stuck
    | none => compL f ds acc S1)
def compD (f : D → Store → Rs (Option (Key × D))) : List D → List (Key × D) → Store → Rs (List (Key × D))
  | [], acc, S => .ok acc S
  | d :: ds, acc, S => (f d S).bind fun o S1 => (match o with
    | some y => if acc.length < 1000000 then compD f ds (putD acc y.1 y.2) S1 else .stuck
    | none => compD f ds acc S1)
/-- no exception leaves a comprehension -/
def Rs.nox {α : Type} (r : Rs α) : Rs α := match r with | .ex _ _ _ => .stuck | r => r
def mapK (g : Fn) : List D → Store → Option (List D × Store)
  | [], S => some ([], S)
  | d :: ds, S => (match g [d] S with
    | .ok k S' => (match mapK g ds S' with | some (ks, S2) => some (k :: ks, S2) | none => none)
    | _ => none)
def alikeAllD (ds : List D) : Bool := ds.all fun a => ds.all fun b => PySem.W.alike a.py b.py
def sortableD (ds : List D) : Bool :=
  (ds.all fun d => match d with | .tup (_ :: _) => true | _ => false) || (ds.all fun d => match d with | .non => false | .tup _ => false | _ => true)
def leD (a b : D) : Bool := PySem.W.dataLe false D.py a b
def newL (m : Bool) (ds : List D) (S : Store) : Rs D :=
  if m then (if ltL ds S.length then .ok (.ptr S.length) (S ++ [.lst ds]) else .stuck) else .ok (.lst ds) S
def lockI (it : CI) (ρ : MEnv) (S : Store) : Store × Option (Nat × Cell) :=
  match it with
  | .cell i => (match ρ[i]? with
    | some (some d) => lockC d S
    | _ => (S, none))
  | .cellE e => (match pathD e ρ S with
    | some d => lockC d S
    | none => (S, none))
  | _ => (S, none)
mutual
def ev : CE → MEnv → Store → Rs D
  | .var i, ρ, S => (match ρ[i]? with | some (some d) => .ok d S | _ => .stuck)
  | .frz i, ρ, S => (match ρ[i]? with
    | some (some (.ptr n)) => (match S[n]? with | some (.lst ds) => .ok (.lst ds) (S.set n .dead) | _ => .stuck)
    | _ => .stuck)
  | .non, _, S => .ok .non S
  | .bl b, _, S => .ok (.bl b) S
  | .int i, _, S => .ok (.int i) S
  | .str s, _, S => .ok (.str s) S
  | .glob _ d, _, S => .ok d S
  | .bin op a b, ρ, S => (ev a ρ S).bind fun x S => (ev b ρ S).bind fun y S => Rs.of (binD op x y S) S
  | .neg a, ρ, S => (ev a ρ S).bind fun x S => (match x with | .int i => .ok (.int (-i)) S | _ => .stuck)
  | .not a, ρ, S => (ev a ρ S).bind fun x S => (match x with | .bl b => .ok (.bl (!b)) S | _ => .stuck)
  | .band es, ρ, S => evAnd es ρ S
  | .bor es, ρ, S => evOr es ρ S
  | .cmp op a b, ρ, S => (ev a ρ S).bind fun x S => (ev b ρ S).bind fun y S => Rs.of ((cmpD op x y S).map .bl) S
  | .chain op op' a b c, ρ, S => (ev a ρ S).bind fun x S => (ev b ρ S).bind fun y S => (match cmpD op x y S with
    | some true => (ev c ρ S).bind fun z S => Rs.of ((cmpD op' y z S).map .bl) S
    | some false => .ok (.bl false) S
    | none => .stuck)
  | .isN a, ρ, S => (ev a ρ S).bind fun x S => Rs.of ((isNon x S).map .bl) S
  | .notN a, ρ, S => (ev a ρ S).bind fun x S => Rs.of ((isNon x S).map fun b => .bl (!b)) S
  | .ite c a b, ρ, S => (ev c ρ S).bind fun x S => (match x with | .bl true => ev a ρ S | .bl false => ev b ρ S | _ => .stuck)
  | .call _ g es, ρ, S => (evs es ρ S).bind fun ds S => g ds S
  | .bi f es, ρ, S => (evs es ρ S).bind fun ds S => Rs.of (biD f ds S) S
  | .tup es, ρ, S => (evs es ρ S).bind fun ds S => .ok (.tup ds) S
  | .new m l, ρ, S => (evL l ρ S).bind fun ds S => newL m ds S
  | .dnew t, _, S => .ok (.ptr S.length) (S ++ [if t then .dT [] else .dK []])
  | .dcomp own t it c k v, ρ, S => (evI it ρ (lockI it ρ S).1).bind fun items S1 =>
    (compD (fun d S => match setT t d (wipeE ρ (own.map (·.2))) with
      | some ρ1 => ((evO c ρ1 S).bind fun b S => (match b with
        | some (.bl false) => .ok none S
        | some (.bl true) => (ev k ρ1 S).bind fun x S => (ev v ρ1 S).bind fun y S => Rs.of ((toKey x).map fun x => some (x, y)) S
        | some _ => .stuck
        | none => (ev k ρ1 S).bind fun x S => (ev v ρ1 S).bind fun y S => Rs.of ((toKey x).map fun x => some (x, y)) S)).nox
      | none => .stuck) items [] S1).bind fun kvs S2 => (match unl (lockI it ρ S).2 S2 with | some S3 => if kvs.all (fun kv => kv.2.lt S3.length) then .ok (.ptr S3.length) (S3 ++ [.dK kvs]) else .stuck | none => .stuck)
  | .cnt a b, ρ, S => (ev a ρ S).bind fun x S => if isLstD x then (ev b ρ S).bind fun y S => Rs.of (cntM x y) S else .stuck
  | .dgetd a b c, ρ, S => (ev a ρ S).bind fun x S => if isDict x S then (ev b ρ S).bind fun y S => (ev c ρ S).bind fun z S => (match dGet x y S with | some o => .ok (o.getD z) S | none => .stuck) else .stuck
  | .join a b, ρ, S => (ev a ρ S).bind fun x S => (match x with | .str s => (ev b ρ S).bind fun y S => Rs.of (joinD s (seqOf y S)) S | _ => .stuck)
  | .ix a b, ρ, S => (ev a ρ S).bind fun x S => (ev b ρ S).bind fun y S => Rs.of (ixD x y S) S
  | .sl a lo hi, ρ, S => (ev a ρ S).bind fun x S => (evN lo ρ S).bind fun l S => (evN hi ρ S).bind fun h S => Rs.of (slD x l h S) S
def evO : CO → MEnv → Store → Rs (Option D)
  | .none, _, S => .ok none S
  | .some e, ρ, S => (ev e ρ S).bind fun x S => .ok (some x) S
/-- an optional whole number -/
def evN : CO → MEnv → Store → Rs (Option Int)
  | .none, _, S => .ok none S
  | .some e, ρ, S => (ev e ρ S).bind fun x S => (match x with | .int i => .ok (some i) S | _ => .stuck)
def evs : CEs → MEnv → Store → Rs (List D)
  | .nil, _, S => .ok [] S
  | .cons e es, ρ, S => (ev e ρ S).bind fun x S => (evs es ρ S).bind fun xs S => .ok (x :: xs) S
def evAnd : CEs → MEnv → Store → Rs D
  | .nil, _, _ => .stuck
  | .cons e es, ρ, S => (match es with
    | .nil => (ev e ρ S).bind fun x S => (match x with | .bl b => .ok (.bl b) S | _ => .stuck)
    | es => (ev e ρ S).bind fun x S => (match x with | .bl true => evAnd es ρ S | .bl false => .ok (.bl false) S | _ => .stuck))
def evOr : CEs → MEnv → Store → Rs D
  | .nil, _, _ => .stuck
  | .cons e es, ρ, S => (match es with
    | .nil => (ev e ρ S).bind fun x S => (match x with | .bl b => .ok (.bl b) S | _ => .stuck)
    | es => (ev e ρ S).bind fun x S => (match x with | .bl false => evOr es ρ S | .bl true => .ok (.bl true) S | _ => .stuck))
def evL : CL → MEnv → Store → Rs (List D)
  | .disp es, ρ, S => evs es ρ S
  | .comp own t it c e, ρ, S => (evI it ρ (lockI it ρ S).1).bind fun items S1 =>
    (compL (fun d S => match setT t d (wipeE ρ (own.map (·.2))) with
      | some ρ1 => ((evO c ρ1 S).bind fun b S => (match b with
        | some (.bl false) => .ok none S
        | some (.bl true) => (ev e ρ1 S).bind fun x S => .ok (some x) S
        | some _ => .stuck
        | none => (ev e ρ1 S).bind fun x S => .ok (some x) S)).nox
      | none => .stuck) items [] S1).bind fun ds S2 => (match unl (lockI it ρ S).2 S2 with | some S3 => .ok ds S3 | none => .stuck)
  | .sorted e, ρ, S => (ev e ρ S).bind fun x S => (match x with
    | .tup _ => .stuck
    | .con _ => .stuck
    | x => (match seqOf x S with
      | some ds => if fitL ds 50 && alikeAllD ds && sortableD ds then .ok (ds.mergeSort leD) S else .stuck
      | none => .stuck))
  | .sortk e _ g, ρ, S => (ev e ρ S).bind fun x S => (match x with
    | .tup _ => .stuck
    | .con _ => .stuck
    | x => (match seqOf x S with
      | some ds => (match mapK g ds S with
        | some (ks, S2) => if fitL ks 50 && alikeAllD ks && sortableD ks then .ok (((ks.zip ds).mergeSort fun a b => leD a.1 b.1).map (·.2)) S2 else .stuck
        | none => .stuck)
      | none => .stuck))
  | .list e, ρ, S => (ev e ρ S).bind fun x S => Rs.of (seqOf x S) S
  | .rev e, ρ, S => (ev e ρ S).bind fun x S => (match x with
      | .tup _ => .stuck
      | .con _ => .stuck
      | x => Rs.of ((seqOf x S).map List.reverse) S)
  | .cat a b, ρ, S => (ev a ρ S).bind fun x S => (ev b ρ S).bind fun y S => (match dsOf x S with
      | some xs => (match dsOf y S with
        | some ys => if xs.length + ys.length ≤ 1000000 then .ok (xs ++ ys) S else .stuck
        | none => .stuck)
      | none => .stuck)
  | .srtd e, ρ, S => (ev e ρ S).bind fun x S => srtdM x S
  | .lrng a b, ρ, S => (ev a ρ S).bind fun x S => (ev b ρ S).bind fun y S => lrngM x y S
  | .stp e k, ρ, S => (ev e ρ S).bind fun x S => stpM k x S
  | .keys e, ρ, S => (ev e ρ S).bind fun x S => (match x with
    | .ptr n => (match S[n]? with
      | some (.dK kvs) => .ok (kvs.map fun kv => kD kv.1) S
      | some (.dT kvs) => .ok (kvs.map fun kv => .tup (kv.1.map kD)) S
      | _ => .stuck)
    | _ => .stuck)
def evI : CI → MEnv → Store → Rs (List D)
  | .seq e, ρ, S => (ev e ρ S).bind fun x S => Rs.of (iterD x) S
  | .rng1 a, ρ, S => (ev a ρ S).bind fun x S => (match x with
    | .int j => if small62 j then .ok (rangeD 0 j) S else .stuck
    | _ => .stuck)
  | .rng2 a b, ρ, S => (ev a ρ S).bind fun x S => (ev b ρ S).bind fun y S => (match x, y with
    | .int i, .int j => if small62 i && small62 j then .ok (rangeD i j) S else .stuck
    | _, _ => .stuck)
  | .rng3 a b c, ρ, S => (ev a ρ S).bind fun x S => (ev b ρ S).bind fun y S => (ev c ρ S).bind fun z S => rngD3 x y z S
  | .enum e, ρ, S => (ev e ρ S).bind fun x S => Rs.of ((iterL x).map enumD) S
  | .text e, ρ, S => (ev e ρ S).bind fun x S => (match x with | .str z => .ok (z.cps.toList.map fun c => .str ⟨#[c]⟩) S | _ => .stuck)
  | .cell i, ρ, S => (match ρ[i]? with
    | some (some d) => Rs.of (iterC d S) S
    | _ => .stuck)
  | .cellE e, ρ, S => (ev e ρ S).bind fun x S => Rs.of (iterCL x S) S
end
/-! ### statements -/
inductive Fl where
  | nx (ρ : MEnv) (S : Store)
  | ret (d : D) (S : Store)
  | ex (c : Str) (fs : List (Str × D)) (ρ : MEnv) (S : Store)
  | stuck
def Rs.fl {α : Type} (r : Rs α) (ρ : MEnv) (f : α → Store → Fl) : Fl :=
  match r with
  | .ok a S => f a S
  | .ex c fs S => .ex c fs ρ S
  | .stuck => .stuck
/-! ### what a clause of a try says -/
inductive XA where
  | fld (f : Str)
  | var (j : Nat)
  | non
  | bl (b : Bool)
  | int (i : Int)
  | str (s : Str)
  | eqC (x : XA) (k : Int)
  | inC (x : XA) (ks : List Int)
inductive XH where
  | ret (x : XA)
  | retL (xs : List XA)
  | retC (f : Str) (g : Fn) (xs : List XA)
def xa : XA → MEnv → List (Str × D) → Option D
  | .fld f, _, fs => fs.lookup f
  | .var j, ρ, _ => (match ρ[j]? with | some (some d) => some d | _ => none)
  | .non, _, _ => some .non
  | .bl b, _, _ => some (.bl b)
  | .int i, _, _ => some (.int i)
  | .str s, _, _ => some (.str s)
  | .eqC x k, ρ, fs => (match xa x ρ fs with | some (.int n) => some (.bl (decide (n = k))) | _ => none)
  | .inC x ks, ρ, fs => (match xa x ρ fs with | some (.int n) => some (.bl (ks.contains n)) | _ => none)
def xas : List XA → MEnv → List (Str × D) → Option (List D)
  | [], _, _ => some []
  | x :: xs, ρ, fs => (match xa x ρ fs with
    | some d => (xas xs ρ fs).map (d :: ·)
    | none => none)
def xh : XH → MEnv → List (Str × D) → Store → Fl
  | .ret x, ρ, fs, S => (match xa x ρ fs with | some d => .ret d S | none => .stuck)
  | .retL xs, ρ, fs, S => (match xas xs ρ fs with | some ds => .ret (.lst ds) S | none => .stuck)
  | .retC _ g xs, ρ, fs, S => (match xas xs ρ fs with
    | some ds => (match g ds S with | .ok d S' => .ret d S' | _ => .stuck)
    | none => .stuck)
def setN (i : Option Nat) (ρ : MEnv) : MEnv := match i with
  | some i => ρ.set i none
  | none => ρ
def okN (i : Option Nat) (ρ : MEnv) : Bool := match i with
  | some i => decide (i < ρ.length)
  | none => true
/-- what an exception's text can be made of -/
def shortD : D → Bool
  | .str z => decide (z.length ≤ 1000)
  | .int i => decide (i.natAbs.log2 < 1920)
  | _ => false
mutual
inductive CS where
  | asg (t : Tg) (e : CE)
  | par (i j : Nat) (a b : CE)
  | put (o i e : CE)
  | putp (o i p j a b : CE)
  | aug (i : Nat) (e : CE)
  | drop (e : CE)
  | app (o e : CE)
  | rem (o e : CE)
  | ifs (c : CE) (a b : CSs)
  | for_ (t : Tg) (it : CI) (b : CSs)
  | while_ (fuel : Nat) (c : CE) (b : CSs)
  | ret (e : CE)
  | retN
  | pass
  | fail
  | rais (c : Str) (fs : List Str) (es : CEs)
  | try_ (b : CSs) (y : Str) (ms no : List Str) (i : Option Nat) (fl : List Str) (h : XH)
inductive CSs where
  | nil
  | cons (s : CS) (ss : CSs)
  | frz (i : Nat) (ss : CSs)
end
def forL (f : D → MEnv → Store → Fl) : List D → MEnv → Store → Fl
  | [], ρ, S => .nx ρ S
  | d :: ds, ρ, S => (match f d ρ S with
    | .nx ρ' S' => forL f ds ρ' S'
    | r => r)
def whileL (c : MEnv → Store → Rs D) (f : MEnv → Store → Fl) : Nat → MEnv → Store → Fl
  | 0, _, _ => .stuck
  | n + 1, ρ, S => (c ρ S).fl ρ fun x S => (match x with
    | .bl true => (match f ρ S with
      | .nx ρ' S' => whileL c f n ρ' S'
      | r => r)
    | .bl false => .nx ρ S
    | _ => .stuck)
def Fl.unlock (l : Option (Nat × Cell)) : Fl → Fl
  | .nx ρ S => (match unl l S with | some S => .nx ρ S | none => .stuck)
  | .ret d S => (match unl l S with | some S => .ret d S | none => .stuck)
  | .ex c fs ρ S => .ex c fs ρ S
  | .stuck => .stuck
def putL (o i d : D) (S : Store) : Option Store :=
  match o with
  | .ptr n => if d.lt n then (match S[n]? with
    | some (.lst ds) => (match i with | .int k => (ixN ds.length k).map fun j => S.set n (.lst (ds.set j d)) | _ => none)
    | _ => none) else none
  | _ => none
def appL (o d : D) (S : Store) : Option Store :=
  match o with
  | .ptr n => if d.lt n then (match S[n]? with
    | some (.lst ds) => if ds.length < 1000000 then some (S.set n (.lst (ds ++ [d]))) else none
    | _ => none) else none
  | _ => none
def isCellL (o : D) (S : Store) : Bool :=
  match o with
  | .ptr n => (match S[n]? with
    | some (.lst _) => true
    | _ => false)
  | _ => false
/-- the place of the first item that is ==, none where there is none or == is not plain -/
def findD (x : D) : List D → Option Nat
  | [] => none
  | y :: ys => (match eqD y x with
    | some true => some 0
    | some false => (findD x ys).map (· + 1)
    | none => none)
def remL (o d : D) (S : Store) : Option Store :=
  match o with
  | .ptr n => (match S[n]? with
    | some (.lst ds) => if d.fit 50 && fitL ds 50 then (findD d ds).map fun j => S.set n (.lst (ds.eraseIdx j)) else none
    | _ => none)
  | _ => none
mutual
def ex : CS → MEnv → Store → Fl
  | .asg t e, ρ, S => (ev e ρ S).fl ρ fun d S => (match setT t d ρ with | some ρ' => .nx ρ' S | none => .stuck)
  | .par i j a b, ρ, S => (ev a ρ S).fl ρ fun x S => (ev b ρ S).fl ρ fun y S => .nx ((ρ.set i (some x)).set j (some y)) S
  | .put o i e, ρ, S => (ev e ρ S).fl ρ fun d S => (ev o ρ S).fl ρ fun x S => (ev i ρ S).fl ρ fun k S => (match (if isDict x S then dPut x k d S else putL x k d S) with | some S' => .nx ρ S' | none => .stuck)
  | .putp o i p j a b, ρ, S => (ev a ρ S).fl ρ fun d S => (ev b ρ S).fl ρ fun d2 S => (ev o ρ S).fl ρ fun x S => (ev i ρ S).fl ρ fun k S => (match (if isDict x S then dPut x k d S else putL x k d S) with
    | some S => (ev p ρ S).fl ρ fun x S => (ev j ρ S).fl ρ fun k S => (match (if isDict x S then dPut x k d2 S else putL x k d2 S) with | some S' => .nx ρ S' | none => .stuck)
    | none => .stuck)
  | .aug i e, ρ, S => (match ρ[i]? with
    | some (some (.int x)) => (ev e ρ S).fl ρ fun d S => (match d with | .int y => .nx (ρ.set i (some (.int (x + y)))) S | _ => .stuck)
    | _ => .stuck)
  | .drop e, ρ, S => (ev e ρ S).fl ρ fun _ S => .nx ρ S
  | .app o e, ρ, S => (ev o ρ S).fl ρ fun x S => if isCellL x S then (ev e ρ S).fl ρ fun d S => (match appL x d S with | some S' => .nx ρ S' | none => .stuck) else .stuck
  | .rem o e, ρ, S => (ev o ρ S).fl ρ fun x S => if isCellL x S then (ev e ρ S).fl ρ fun d S => (match remL x d S with | some S' => .nx ρ S' | none => .stuck) else .stuck
  | .ifs c a b, ρ, S => (ev c ρ S).fl ρ fun x S => (match x with | .bl true => exs a ρ S | .bl false => exs b ρ S | _ => .stuck)
  | .for_ t it b, ρ, S => ((evI it ρ (lockI it ρ S).1).fl ρ fun items S => forL (fun d ρ S => match setT t d ρ with | some ρ' => exs b ρ' S | none => .stuck) items ρ S).unlock (lockI it ρ S).2
  | .while_ n c b, ρ, S => whileL (ev c) (exs b) n ρ S
  | .ret e, ρ, S => (ev e ρ S).fl ρ fun d S => .ret d S
  | .retN, _, S => .ret .non S
  | .pass, ρ, S => .nx ρ S
  | .fail, _, _ => .stuck
  | .rais c fs es, ρ, S => (evs es ρ S).fl ρ fun ds S => if ds.length = fs.length ∧ ds.all shortD = true then .ex c (fs.zip ds) ρ S else .stuck
  | .try_ b _ ms no i _ h, ρ, S => (match exs b ρ S with
    | .ex c fs ρ' S' => if (ms.contains c && okN i ρ') = true then xh h (setN i ρ') fs S' else if no.contains c = true then .ex c fs ρ' S' else .stuck
    | r => r)
def exs : CSs → MEnv → Store → Fl
  | .nil, ρ, S => .nx ρ S
  | .cons s ss, ρ, S => (match ex s ρ S with
    | .nx ρ' S' => exs ss ρ' S'
    | r => r)
  | .frz i ss, ρ, S => (match ρ[i]? with
    | some (some (.ptr n)) => (match S[n]? with | some (.lst ds) => exs ss (ρ.set i (some (.lst ds))) (S.set n .dead) | _ => .stuck)
    | _ => .stuck)
end
/-- what a call hands back: cells made in it are dropped, but for one that is handed back itself -/
def expo (n : Nat) (d : D) (S : Store) : Rs D :=
  if d.lt n then .ok d (S.take n) else
  (match d with
    | .ptr m => (match S[m]? with
      | some (.lst ds) => if ltL ds n then .ok (.ptr n) (S.take n ++ [.lst ds]) else .stuck
      | some (.dK kvs) => if kvs.all (fun kv => kv.2.lt n) then .ok (.ptr n) (S.take n ++ [.dK kvs]) else .stuck
      | some (.dT kvs) => if kvs.all (fun kv => kv.2.lt n) then .ok (.ptr n) (S.take n ++ [.dT kvs]) else .stuck
      | _ => .stuck)
    | _ => .stuck)
def fnOf (arity slots : Nat) (b : CSs) : Fn := fun ds S =>
  if ds.length = arity then
    (match exs b (ds.map some ++ List.replicate (slots - arity) none) S with
      | .nx _ S' => expo S.length .non S'
      | .ret d S' => expo S.length d S'
      | .ex c fs _ S' => if fs.all (fun f => f.2.lt S.length) then .ex c fs (S'.take S.length) else .stuck
      | .stuck => .stuck)
  else .stuck
end MI
namespace MI
open PySem PySem.Spec L2
abbrev Rho := List (Option Addr)
abbrev noH : Hp := fun _ => none
/-- no tuple -/
def nTup : HO → Bool
  | .tup _ => false
  | _ => true
abbrev NT := {o : HO // nTup o = true}
section
variable (K : PySem.W.Frag) (hid : List Addr) (ρ : Rho) (H : Hp)
/-- the script -/
def RdC (a : Addr) (xs : List V) : Prop := SqL K noH a xs ∨ ∃ o, H a = some (.frz o (.lst xs)) ∧ some a ∉ ρ ∧ a ∉ hid
mutual
inductive Rep : V → D → Prop
  | non : Rep .non .non
  | bl (b : Bool) : Rep (.bl b) (.bl b)
  | int (i : Int) : Rep (.int i) (.int i)
  | str (s : Str) : Rep (.str s) (.str s)
  | tup {a : Addr} {xs : List V} {ds : List D} : H a = some (.tup xs) → some a ∉ ρ → a ∉ hid → RepL xs ds → Rep (.ref a) (.tup ds)
  | lst {a : Addr} {xs : List V} {ds : List D} : H a = some (.lst xs) → some a ∉ ρ → a ∉ hid → RepL xs ds → Rep (.ref a) (.lst ds)
  | con {a : Addr} {xs : List V} {ds : List D} : SqT K noH a xs → RepL xs ds → Rep (.ref a) (.con ds)
  | scr {a : Addr} {xs : List V} {ds : List D} : RdC K hid ρ H a xs → RepL xs ds → Rep (.ref a) (.scr ds)
  | ptr {v : V} {n : Nat} : n < ρ.length → (∀ a, ρ[n]? = some (some a) → v = .ref a) → Rep v (.ptr n)
inductive RepL : List V → List D → Prop
  | nil : RepL [] []
  | cons {v : V} {vs : List V} {d : D} {ds : List D} : Rep v d → RepL vs ds → RepL (v :: vs) (d :: ds)
end
def RepKV {κ : Type} (ks : List (κ × V)) (kvs : List (κ × D)) : Prop := Paired (fun p q => p.1 = q.1 ∧ Rep K hid ρ H p.2 q.2) ks kvs
/-- all else stands -/
structure Ext (ρ : Rho) (H : Hp) (ρ' : Rho) (H' : Hp) : Prop where
  len : ρ.length ≤ ρ'.length
  slot : ∀ (n : Nat), n < ρ.length → ρ'[n]? = ρ[n]? ∨ ρ'[n]? = some none
  keep : ∀ b o, H b = some o → some b ∉ ρ → H' b = some o ∧ some b ∉ ρ'
  frz : ∀ b o u, H b = some (.frz o u) → H' b = some (.frz o u)
def RepC (mg : Str → Option Value) (n : Nat) (a : Addr) : Cell → Prop
  | .dead => False
  | .lst ds => ltL ds n = true ∧ ∃ xs, H a = some (.lst xs) ∧ RepL K hid ρ H xs ds
  | .lkl ds => ltL ds n = true ∧ ∃ xs o, H a = some (.frz o (.lst xs)) ∧ RepL K hid ρ H xs ds
  | .dK kvs => (∀ kv ∈ kvs, kv.2.lt n = true) ∧ ∃ ks, H a = some (.dK ks) ∧ RepKV K hid ρ H ks kvs
  | .dT kvs => (∀ kv ∈ kvs, kv.2.lt n = true) ∧ ∃ ks, H a = some (.dT ks) ∧ RepKV K hid ρ H ks kvs
  | .lkd kvs => (∀ kv ∈ kvs, kv.2.lt n = true) ∧ ∃ ks o, H a = some (.frz o (.dK ks)) ∧ RepKV K hid ρ H ks kvs
  | .lkt kvs => (∀ kv ∈ kvs, kv.2.lt n = true) ∧ ∃ ks o, H a = some (.frz o (.dT ks)) ∧ RepKV K hid ρ H ks kvs
  | .ins c fs => (∀ kv ∈ fs, kv.2.lt n = true) ∧ ∃ C dx gs, H a = some (.ins C dx gs) ∧ mg c = some (.ref C) ∧ RepKV K hid ρ H gs fs
structure RelS (mg : Str → Option Value) (S : Store) : Prop where
  len : ρ.length = S.length
  nd : ∀ (n m : Nat) (a : Addr), ρ[n]? = some (some a) → ρ[m]? = some (some a) → n = m
  cells : ∀ (n : Nat) (c : Cell), S[n]? = some c → (c = .dead ∧ ρ[n]? = some none) ∨ ∃ a, ρ[n]? = some (some a) ∧ RepC K hid ρ H mg n a c
  hidd : ∀ a ∈ hid, (∃ o : NT, H a = some o.1) ∧ some a ∉ ρ
structure RelE (σ : St) (env : MEnv) : Prop where
  len : σ.length = env.length
  at_ : ∀ (i : Nat) (d : D), env[i]? = some (some d) → ∃ v, σ[i]? = some (some v) ∧ Rep K hid ρ H v d
end
section
variable {K : PySem.W.Frag} {mg : Str → Option Value} {hid hid' : List Addr} {ρ ρ' ρ'' ρ1 : Rho} {H H' H'' H1 : Hp} {S : Store} {v x : V} {d : D} {ds : List D} {xs : List V} {a b : Addr} {n : Nat}
theorem Ext.refl : Ext ρ H ρ H := ⟨Nat.le_refl _, fun _ _ => .inl rfl, fun _ _ h1 h2 => ⟨h1, h2⟩, fun _ _ _ h => h⟩
theorem Ext.trans (e : Ext ρ H ρ' H') (f : Ext ρ' H' ρ'' H'') : Ext ρ H ρ'' H'' :=
  ⟨Nat.le_trans e.len f.len, fun n hn => by
    rcases f.slot n (Nat.lt_of_lt_of_le hn e.len) with q | q
    · rw [q]; exact e.slot n hn
    · exact .inr q, fun b o h1 h2 => by
    obtain ⟨h3, h4⟩ := e.keep b o h1 h2
    exact f.keep b o h3 h4, fun b o u h => f.frz b o u (e.frz b o u h)⟩
theorem Ext.same (s : Same H H') : Ext ρ H ρ H' := ⟨Nat.le_refl _, fun _ _ => .inl rfl, fun b o h1 h2 => ⟨s b o h1, h2⟩, fun b o u h => s b _ h⟩
theorem same_new {p : Addr} {o : HO} (h : H p = none) : Same H (upd H p o) := fun b u e => by
  rw [upd_ne (ne_of_none e h)]; exact e
/-- what data lean on is handed over -/
structure Cv (hid : List Addr) (ρ : Rho) (H : Hp) (hid' : List Addr) (ρ' : Rho) (H' : Hp) : Prop where
  len : ρ.length ≤ ρ'.length
  slot : ∀ (n : Nat), n < ρ.length → ρ'[n]? = ρ[n]? ∨ ρ'[n]? = some none
  keep : ∀ b o, H b = some o → some b ∉ ρ → b ∉ hid → H' b = some o ∧ some b ∉ ρ' ∧ b ∉ hid'
mutual
theorem Rep.conv (e : Cv hid ρ H hid' ρ' H') : ∀ (d : D) {v : V}, Rep K hid ρ H v d → Rep K hid' ρ' H' v d
  | .non, _, h => by cases h; exact .non
  | .bl b, _, h => by cases h; exact .bl b
  | .int b, _, h => by cases h; exact .int b
  | .str b, _, h => by cases h; exact .str b
  | .tup ds, _, h => by
    cases h with
    | tup h1 h2 h3 h4 =>
      obtain ⟨q1, q2, q3⟩ := e.keep _ _ h1 h2 h3
      exact .tup q1 q2 q3 (RepL.conv e ds h4)
  | .lst ds, _, h => by
    cases h with
    | lst h1 h2 h3 h4 =>
      obtain ⟨q1, q2, q3⟩ := e.keep _ _ h1 h2 h3
      exact .lst q1 q2 q3 (RepL.conv e ds h4)
  | .con ds, _, h => by
    cases h with
    | con h1 h4 => exact .con h1 (RepL.conv e ds h4)
  | .scr ds, _, h => by
    cases h with
    | scr h1 h4 =>
      refine .scr ?_ (RepL.conv e ds h4)
      rcases h1 with h | ⟨o, p1, p2, p3⟩
      · exact .inl h
      · obtain ⟨q1, q2, q3⟩ := e.keep _ _ p1 p2 p3
        exact .inr ⟨o, q1, q2, q3⟩
  | .ptr n, v, h => by
    cases h with
    | ptr h1 h2 =>
      refine .ptr (Nat.lt_of_lt_of_le h1 e.len) fun a ha => ?_
      rcases e.slot n h1 with q | q
      · rw [q] at ha; exact h2 a ha
      · rw [q] at ha; cases ha
theorem RepL.conv (e : Cv hid ρ H hid' ρ' H') : ∀ (ds : List D) {vs : List V}, RepL K hid ρ H vs ds → RepL K hid' ρ' H' vs ds
  | [], _, h => by cases h; exact .nil
  | d :: ds, _, h => by
    cases h with
    | cons h1 h2 => exact .cons (Rep.conv e d h1) (RepL.conv e ds h2)
end
theorem Ext.cv (e : Ext ρ H ρ' H') : Cv hid ρ H hid ρ' H' := ⟨e.len, e.slot, fun b o h1 h2 h3 => let ⟨q1, q2⟩ := e.keep b o h1 h2; ⟨q1, q2, h3⟩⟩
theorem Cv.show_ (s : ∀ b, b ∈ hid' → b ∈ hid) : Cv hid ρ H hid' ρ H := ⟨Nat.le_refl _, fun _ _ => .inl rfl, fun b o h1 h2 h3 => ⟨h1, h2, fun z => h3 (s b z)⟩⟩
theorem Cv.hide (hn : H b = none) : Cv hid ρ H (b :: hid) ρ H := ⟨Nat.le_refl _, fun _ _ => .inl rfl, fun c o h1 h2 h3 => ⟨h1, h2, fun z => (List.mem_cons.mp z).elim (fun q => by rw [q, hn] at h1; cases h1) h3⟩⟩
theorem Cv.turn {p : Addr} {o : HO} : Cv (p :: hid) ρ H (p :: hid) ρ (upd H p o) := ⟨Nat.le_refl _, fun _ _ => .inl rfl, fun c u h1 h2 h3 => ⟨by
  have hc : c ≠ p := fun z => h3 (by rw [z]; exact List.mem_cons_self)
  rw [upd_ne hc]; exact h1, h2, h3⟩⟩
theorem Rep.mono {d : D} {v : V} (h : Rep K hid ρ H v d) (e : Ext ρ H ρ' H') : Rep K hid ρ' H' v d := Rep.conv e.cv d h
theorem RepL.mono {ds : List D} {v : List V} (h : RepL K hid ρ H v ds) (e : Ext ρ H ρ' H') : RepL K hid ρ' H' v ds := RepL.conv e.cv ds h
theorem RepKV.imp {κ : Type} {ks : List (κ × V)} {kvs : List (κ × D)} (f : ∀ (d : D) (v : V), Rep K hid ρ H v d → Rep K hid' ρ' H' v d) (h : RepKV K hid ρ H ks kvs) : RepKV K hid' ρ' H' ks kvs :=
  Paired.mapP h fun _ _ q => ⟨q.1, f _ _ q.2⟩
/-- a cell's own object stands as it stood -/
theorem RepC.imp {c : Cell} (ha : ∀ o, H a = some o → H' a = some o) (f : ∀ (d : D) (v : V), Rep K hid ρ H v d → Rep K hid' ρ' H' v d) (fl : ∀ (ds : List D) (vs : List V), RepL K hid ρ H vs ds → RepL K hid' ρ' H' vs ds)
    (h : RepC K hid ρ H mg n a c) : RepC K hid' ρ' H' mg n a c := by
  cases c with
  | dead => exact h
  | lst ds => obtain ⟨l, xs, e, r⟩ := h; exact ⟨l, xs, ha _ e, fl _ _ r⟩
  | lkl ds => obtain ⟨l, xs, o, e, r⟩ := h; exact ⟨l, xs, o, ha _ e, fl _ _ r⟩
  | dK ds => obtain ⟨l, xs, e, r⟩ := h; exact ⟨l, xs, ha _ e, r.imp f⟩
  | dT ds => obtain ⟨l, xs, e, r⟩ := h; exact ⟨l, xs, ha _ e, r.imp f⟩
  | lkd ds => obtain ⟨l, xs, o, e, r⟩ := h; exact ⟨l, xs, o, ha _ e, r.imp f⟩
  | lkt ds => obtain ⟨l, xs, o, e, r⟩ := h; exact ⟨l, xs, o, ha _ e, r.imp f⟩
  | ins c fs => obtain ⟨l, C, dx, gs, e, m, r⟩ := h; exact ⟨l, C, dx, gs, ha _ e, m, r.imp f⟩
theorem RepC.there {c : Cell} (h : RepC K hid ρ H mg n a c) : ∃ o, H a = some o := by
  cases c with
  | dead => cases h
  | lst ds => obtain ⟨l, xs, e, r⟩ := h; exact ⟨_, e⟩
  | lkl ds => obtain ⟨l, xs, o, e, r⟩ := h; exact ⟨_, e⟩
  | dK ds => obtain ⟨l, xs, e, r⟩ := h; exact ⟨_, e⟩
  | dT ds => obtain ⟨l, xs, e, r⟩ := h; exact ⟨_, e⟩
  | lkd ds => obtain ⟨l, xs, o, e, r⟩ := h; exact ⟨_, e⟩
  | lkt ds => obtain ⟨l, xs, o, e, r⟩ := h; exact ⟨_, e⟩
  | ins c fs => obtain ⟨l, C, dx, gs, e, m, r⟩ := h; exact ⟨_, e⟩
theorem RelE.mono {σ : St} {env : MEnv} (e : Ext ρ H ρ' H') (h : RelE K hid ρ H σ env) : RelE K hid ρ' H' σ env :=
  ⟨h.len, fun i d hd => let ⟨v, q, r⟩ := h.at_ i d hd; ⟨v, q, r.mono e⟩⟩
/-- a tracked address of ρ -/
theorem RelS.mem (R : RelS K hid ρ H mg S) (h : some a ∈ ρ) : ∃ o, H a = some o := by
  obtain ⟨n, hn, e⟩ := List.getElem_of_mem h
  have e' : ρ[n]? = some (some a) := by rw [List.getElem?_eq_getElem hn, e]
  have hs : n < S.length := by rw [← R.len]; exact hn
  rcases R.cells n _ (List.getElem?_eq_getElem hs) with ⟨_, q⟩ | ⟨b, q, rc⟩
  · rw [e'] at q; cases q
  · rw [e'] at q; cases q; exact rc.there
theorem RelS.fresh (R : RelS K hid ρ H mg S) (h : H a = none) : some a ∉ ρ ∧ a ∉ hid := by
  refine ⟨fun z => ?_, fun z => ?_⟩
  · obtain ⟨o, e⟩ := R.mem z; rw [h] at e; cases e
  · obtain ⟨⟨o, e⟩, _⟩ := R.hidd a z; rw [h] at e; cases e
theorem RelS.same (s : Same H H') (R : RelS K hid ρ H mg S) : RelS K hid ρ H' mg S :=
  ⟨R.len, R.nd, fun n c e => (R.cells n c e).imp id fun ⟨a, q, r⟩ => ⟨a, q, r.imp (fun o h => s a o h) (fun _ _ z => z.mono (Ext.same s)) fun _ _ z => z.mono (Ext.same s)⟩,
    fun a h => let ⟨⟨o, e⟩, q⟩ := R.hidd a h; ⟨⟨o, s a _ e⟩, q⟩⟩
theorem RelS.at_ {c : Cell} (R : RelS K hid ρ H mg S) (e : S[n]? = some c) (hc : c ≠ .dead) : ∃ a, ρ[n]? = some (some a) ∧ RepC K hid ρ H mg n a c := by
  rcases R.cells n c e with ⟨q, _⟩ | q
  · exact absurd q hc
  · exact q
theorem Rep.ptr_ref (h : Rep K hid ρ H v (.ptr n)) (e : ρ[n]? = some (some a)) : v = .ref a := by
  cases h with
  | ptr _ h2 => exact h2 a e
/-- the cell n, at a, is written -/
theorem RelS.write {o : HO} {c : Cell} (R : RelS K hid ρ H mg S) (e : ρ[n]? = some (some a)) (nf : ∀ q u, H a ≠ some (.frz q u)) (rc : RepC K hid ρ (upd H a o) mg n a c) :
    Ext ρ H ρ (upd H a o) ∧ RelS K hid ρ (upd H a o) mg (S.set n c) := by
  have ha : some a ∈ ρ := List.mem_of_getElem? e
  have ex : Ext ρ H ρ (upd H a o) := ⟨Nat.le_refl _, fun _ _ => .inl rfl, fun b u h1 h2 => by
    have hb : b ≠ a := fun z => h2 (z ▸ ha)
    rw [upd_ne hb]; exact ⟨h1, h2⟩, fun b q u h => by
    have hb : b ≠ a := fun z => nf q u (z ▸ h)
    rw [upd_ne hb]; exact h⟩
  refine ⟨ex, ⟨by rw [List.length_set]; exact R.len, R.nd, fun m c' hc => ?_, fun b hb => ?_⟩⟩
  · by_cases hm : m = n
    · subst hm
      have hl : m < S.length := by rw [← R.len]; exact (List.getElem?_eq_some_iff.mp e).1
      rw [List.getElem?_set_self hl] at hc
      cases hc
      exact .inr ⟨a, e, rc⟩
    · rw [List.getElem?_set_ne (Ne.symm hm)] at hc
      rcases R.cells m c' hc with q | ⟨b, q, r⟩
      · exact .inl q
      · have hb : b ≠ a := fun z => hm (R.nd m n a (z ▸ q) e)
        exact .inr ⟨b, q, r.imp (fun u h => by rw [upd_ne hb]; exact h) (fun _ _ z => z.mono ex) fun _ _ z => z.mono ex⟩
  · obtain ⟨⟨u, h1⟩, h2⟩ := R.hidd b hb
    have hne : b ≠ a := fun z => h2 (z ▸ ha)
    exact ⟨⟨u, by rw [upd_ne hne]; exact h1⟩, h2⟩
/-- the heap stays, the cell's note changes -/
theorem RelS.note {c : Cell} (R : RelS K hid ρ H mg S) (e : ρ[n]? = some (some a)) (rc : RepC K hid ρ H mg n a c) : RelS K hid ρ H mg (S.set n c) := by
  refine ⟨by rw [List.length_set]; exact R.len, R.nd, fun m c' hc => ?_, R.hidd⟩
  by_cases hm : m = n
  · subst hm
    have hl : m < S.length := by rw [← R.len]; exact (List.getElem?_eq_some_iff.mp e).1
    rw [List.getElem?_set_self hl] at hc
    cases hc
    exact .inr ⟨a, e, rc⟩
  · rw [List.getElem?_set_ne (Ne.symm hm)] at hc
    exact R.cells m c' hc
theorem RelS.ext_push {p : Addr} {o : HO} (R : RelS K hid ρ H mg S) (hp : H p = none) : Ext ρ H (ρ ++ [some p]) (upd H p o) :=
  ⟨by rw [List.length_append]; exact Nat.le_add_right _ _, fun n hn => .inl (List.getElem?_append_left hn), fun b u h1 h2 => by
    have hb : b ≠ p := ne_of_none h1 hp
    rw [upd_ne hb]
    refine ⟨h1, fun z => ?_⟩
    rcases List.mem_append.mp z with z | z
    · exact h2 z
    · have q : some b = some p := by simpa using z
      exact hb (Option.some.inj q), fun b q u h => by
    rw [upd_ne (ne_of_none h hp)]; exact h⟩
/-- a new cell at p -/
theorem RelS.push {p : Addr} {o : HO} {c : Cell} (R : RelS K hid ρ H mg S) (hp : H p = none) (rc : RepC K hid (ρ ++ [some p]) (upd H p o) mg S.length p c) :
    Ext ρ H (ρ ++ [some p]) (upd H p o) ∧ RelS K hid (ρ ++ [some p]) (upd H p o) mg (S ++ [c]) := by
  obtain ⟨f1, f2⟩ := R.fresh hp
  have ex : Ext ρ H (ρ ++ [some p]) (upd H p o) := R.ext_push hp
  refine ⟨ex, ⟨by rw [List.length_append, List.length_append, R.len]; rfl, fun n m a h1 h2 => ?_, fun m c' hc => ?_, fun b hb => ?_⟩⟩
  · have key : ∀ (i : Nat) (b : Addr), (ρ ++ [some p])[i]? = some (some b) → (i < ρ.length ∧ ρ[i]? = some (some b)) ∨ (i = ρ.length ∧ b = p) := fun i b h => by
      by_cases hi : i < ρ.length
      · rw [List.getElem?_append_left hi] at h; exact .inl ⟨hi, h⟩
      · rw [List.getElem?_append_right (by omega)] at h
        have : i - ρ.length = 0 := by
          cases q : i - ρ.length with
          | zero => rfl
          | succ k => rw [q] at h; simp at h
        rw [this] at h
        simp at h
        exact .inr ⟨by omega, h.symm⟩
    rcases key n a h1 with ⟨_, q1⟩ | ⟨q1, q1'⟩
    · rcases key m a h2 with ⟨_, q2⟩ | ⟨_, q2'⟩
      · exact R.nd n m a q1 q2
      · exact absurd (List.mem_of_getElem? (q2' ▸ q1)) f1
    · rcases key m a h2 with ⟨_, q2⟩ | ⟨q2, _⟩
      · exact absurd (List.mem_of_getElem? (q1' ▸ q2)) f1
      · omega
  · by_cases hm : m < S.length
    · rw [List.getElem?_append_left hm] at hc
      have hr : m < ρ.length := by rw [R.len]; exact hm
      rw [List.getElem?_append_left hr]
      rcases R.cells m c' hc with q | ⟨b, q, r⟩
      · exact .inl q
      · obtain ⟨u, hu⟩ := r.there
        refine .inr ⟨b, q, r.imp (fun u h => by rw [upd_ne (ne_of_none h hp)]; exact h) (fun _ _ z => z.mono ex) fun _ _ z => z.mono ex⟩
    · rw [List.getElem?_append_right (by omega)] at hc
      have hz : m - S.length = 0 := by
        cases q : m - S.length with
        | zero => rfl
        | succ k => rw [q] at hc; simp at hc
      rw [hz] at hc
      simp at hc
      subst hc
      have hm' : m = S.length := by omega
      subst hm'
      exact .inr ⟨p, by rw [← R.len]; simp, rc⟩
  · obtain ⟨⟨u, h1⟩, h2⟩ := R.hidd b hb
    obtain ⟨q1, q2⟩ := ex.keep b _ h1 h2
    exact ⟨⟨u, q1⟩, q2⟩
/-- a cell becomes frozen data -/
theorem RelS.freeze (R : RelS K hid ρ H mg S) (e : ρ[n]? = some (some a)) : Ext ρ H (ρ.set n none) H ∧ RelS K hid (ρ.set n none) H mg (S.set n .dead) ∧ some a ∉ ρ.set n none ∧ a ∉ hid := by
  have hl : n < ρ.length := (List.getElem?_eq_some_iff.mp e).1
  have sub : ∀ b : Addr, some b ∈ ρ.set n none → some b ∈ ρ := fun b h => by
    rcases List.mem_or_eq_of_mem_set h with q | q
    · exact q
    · cases q
  have ex : Ext ρ H (ρ.set n none) H := ⟨by rw [List.length_set]; exact Nat.le_refl _, fun m hm => by
    by_cases h : m = n
    · subst h; exact .inr (List.getElem?_set_self hl)
    · exact .inl (List.getElem?_set_ne (Ne.symm h)), fun b o h1 h2 => ⟨h1, fun z => h2 (sub b z)⟩, fun _ _ _ h => h⟩
  have one : ∀ (m : Nat) (b : Addr), (ρ.set n none)[m]? = some (some b) → m ≠ n ∧ ρ[m]? = some (some b) := fun m b h => by
    by_cases hm : m = n
    · subst hm
      rw [List.getElem?_set_self hl] at h; cases h
    · rw [List.getElem?_set_ne (Ne.symm hm)] at h; exact ⟨hm, h⟩
  refine ⟨ex, ⟨by rw [List.length_set, List.length_set]; exact R.len, fun m k b h1 h2 => R.nd m k b (one m b h1).2 (one k b h2).2, fun m c hc => ?_, fun b hb => ?_⟩, fun z => ?_, fun z => ?_⟩
  · by_cases hm : m = n
    · subst hm
      have hs : m < S.length := by rw [← R.len]; exact hl
      rw [List.getElem?_set_self hs] at hc
      cases hc
      exact .inl ⟨rfl, List.getElem?_set_self hl⟩
    · rw [List.getElem?_set_ne (Ne.symm hm)] at hc
      rw [List.getElem?_set_ne (Ne.symm hm)]
      exact (R.cells m c hc).imp id fun ⟨b, q, r⟩ => ⟨b, q, r.imp (fun _ h => h) (fun _ _ z => z.mono ex) fun _ _ z => z.mono ex⟩
  · obtain ⟨h1, h2⟩ := R.hidd b hb
    exact ⟨h1, fun z => h2 (sub b z)⟩
  · obtain ⟨m, hm, q⟩ := List.getElem_of_mem z
    have q' : (ρ.set n none)[m]? = some (some a) := by rw [List.getElem?_eq_getElem hm, q]
    obtain ⟨h1, h2⟩ := one m a q'
    exact h1 (R.nd m n a h2 e)
  · exact (R.hidd a z).2 (List.mem_of_getElem? e)
/-- one more hidden address -/
theorem RelS.hide {p : Addr} {o : HO} (R : RelS K hid ρ H mg S) (hp : H p = none) (ho : nTup o = true := by rfl) : Ext ρ H ρ (upd H p o) ∧ RelS K (p :: hid) ρ (upd H p o) mg S := by
  have s := same_new (o := o) hp
  obtain ⟨f1, f2⟩ := R.fresh hp
  refine ⟨Ext.same s, ⟨R.len, R.nd, fun n c e => (R.cells n c e).imp id fun ⟨a, q, r⟩ => ⟨a, q, r.imp (fun u h => s a u h) (fun d v z => (Rep.conv (Cv.hide hp) d z).mono (Ext.same s)) fun ds v z => (RepL.conv (Cv.hide hp) ds z).mono (Ext.same s)⟩, fun a h => ?_⟩⟩
  rcases List.mem_cons.mp h with q | q
  · subst q
    exact ⟨⟨⟨o, ho⟩, upd_same⟩, f1⟩
  · obtain ⟨⟨u, e⟩, z⟩ := R.hidd a q
    exact ⟨⟨u, s a _ e⟩, z⟩
/-- the hidden object changes -/
theorem RelS.turn {p : Addr} {o : HO} (R : RelS K (p :: hid) ρ H mg S) (ho : nTup o = true := by rfl) : RelS K (p :: hid) ρ (upd H p o) mg S := by
  obtain ⟨⟨u, hp⟩, hr⟩ := R.hidd p List.mem_cons_self
  refine ⟨R.len, R.nd, fun n c e => ?_, fun a h => ?_⟩
  · rcases R.cells n c e with q | ⟨a, q, r⟩
    · exact .inl q
    · have hne : a ≠ p := fun z => hr (z ▸ List.mem_of_getElem? q)
      exact .inr ⟨a, q, r.imp (fun u h => by rw [upd_ne hne]; exact h) (fun d v z => Rep.conv Cv.turn d z) fun ds v z => RepL.conv Cv.turn ds z⟩
  · obtain ⟨⟨u, e⟩, z⟩ := R.hidd a h
    by_cases ha : a = p
    · subst ha; exact ⟨⟨⟨o, ho⟩, upd_same⟩, z⟩
    · exact ⟨⟨u, by rw [upd_ne ha]; exact e⟩, z⟩
/-- nothing is hidden any more -/
theorem RelS.unhide {p : Addr} (R : RelS K (p :: hid) ρ H mg S) : RelS K hid ρ H mg S :=
  ⟨R.len, R.nd, fun n c e => (R.cells n c e).imp id fun ⟨a, q, r⟩ => ⟨a, q, r.imp (fun u h => h) (fun d v z => Rep.conv (Cv.show_ fun _ => List.mem_cons_of_mem _) d z) fun ds v z => RepL.conv (Cv.show_ fun _ => List.mem_cons_of_mem _) ds z⟩, fun a h => R.hidd a (List.mem_cons_of_mem _ h)⟩
theorem RepL.length : ∀ {vs : List V} {ds : List D}, RepL K hid ρ H vs ds → vs.length = ds.length
  | _, _, .nil => rfl
  | _, _, .cons _ t => by rw [List.length_cons, List.length_cons, RepL.length t]
theorem RepL.get : ∀ {vs : List V} {ds : List D} {i : Nat} {d : D}, RepL K hid ρ H vs ds → ds[i]? = some d → ∃ v, vs[i]? = some v ∧ Rep K hid ρ H v d
  | _, _, i, _, .nil, e => by simp at e
  | _, _, 0, _, .cons h _, e => by simp at e; subst e; exact ⟨_, rfl, h⟩
  | _, _, i + 1, _, .cons _ t, e => by
    obtain ⟨v, h1, h2⟩ := RepL.get (i := i) t (by simpa using e)
    exact ⟨v, by simpa using h1, h2⟩
theorem RepL.getV : ∀ {vs : List V} {ds : List D} {i : Nat} {v : V}, RepL K hid ρ H vs ds → vs[i]? = some v → ∃ d, ds[i]? = some d ∧ Rep K hid ρ H v d
  | _, _, i, _, .nil, e => by simp at e
  | _, _, 0, _, .cons h _, e => by simp at e; subst e; exact ⟨_, rfl, h⟩
  | _, _, i + 1, _, .cons _ t, e => by
    obtain ⟨v, h1, h2⟩ := RepL.getV (i := i) t (by simpa using e)
    exact ⟨v, by simpa using h1, h2⟩
theorem RepL.append : ∀ {vs ws : List V} {ds es : List D}, RepL K hid ρ H vs ds → RepL K hid ρ H ws es → RepL K hid ρ H (vs ++ ws) (ds ++ es)
  | _, _, _, _, .nil, h => h
  | _, _, _, _, .cons h t, k => .cons h (RepL.append t k)
theorem RepL.drop : ∀ {vs : List V} {ds : List D} (n : Nat), RepL K hid ρ H vs ds → RepL K hid ρ H (vs.drop n) (ds.drop n)
  | _, _, 0, h => h
  | _, _, _ + 1, .nil => .nil
  | _, _, n + 1, .cons _ t => RepL.drop n t
theorem RepL.take : ∀ {vs : List V} {ds : List D} (n : Nat), RepL K hid ρ H vs ds → RepL K hid ρ H (vs.take n) (ds.take n)
  | _, _, 0, _ => .nil
  | _, _, _ + 1, .nil => .nil
  | _, _, n + 1, .cons h t => .cons h (RepL.take n t)
theorem RepL.set {v : V} {d : D} (r : Rep K hid ρ H v d) : ∀ {vs : List V} {ds : List D} (i : Nat), RepL K hid ρ H vs ds → RepL K hid ρ H (vs.set i v) (ds.set i d)
  | _, _, _, .nil => .nil
  | _, _, 0, .cons _ t => .cons r t
  | _, _, i + 1, .cons q t => .cons q (RepL.set r i t)
theorem RepL.erase : ∀ {vs : List V} {ds : List D} (i : Nat), RepL K hid ρ H vs ds → RepL K hid ρ H (vs.eraseIdx i) (ds.eraseIdx i)
  | _, _, _, .nil => .nil
  | _, _, 0, .cons _ t => t
  | _, _, i + 1, .cons q t => .cons q (RepL.erase i t)
end
end MI
namespace MI
open PySem PySem.Spec L2
/-- an exception of the class named c, its fields fs -/
def ExcRep (K : PySem.W.Frag) (mg : Str → Option Value) (hid : List Addr) (ρ : Rho) (H : Hp) (cls : Value) (d : Option Addr) (c : Str) (fs : List (Str × D)) : Prop :=
  ∃ C, cls = .ref C ∧ mg c = some (.ref C) ∧ (fs = [] ∨ ∃ dd gs, d = some dd ∧ H dd = some (.xd gs) ∧ RepKV K hid ρ H gs fs)
section
variable (K : PySem.W.Frag) (mg : Str → Option Value) (hid : List Addr) (ρ : Rho) (H : Hp)
def Post {α : Type} (r : Rs α) (Q : Rho → Hp → α → Store → Prop) (W : Value → Option Addr → Hp → Prop) : Prop :=
  match r with
  | .ok a S => ∀ ρ' H', Ext ρ H ρ' H' → RelS K hid ρ' H' mg S → Q ρ' H' a S
  | .ex c fs S => ∀ ρ' H' cls d, Ext ρ H ρ' H' → RelS K hid ρ' H' mg S → ExcRep K mg hid ρ' H' cls d c fs → W cls d H'
  | .stuck => False
end
section
variable {K : PySem.W.Frag} {mg : Str → Option Value} {hid : List Addr} {ρ ρ' : Rho} {H H' : Hp} {α β : Type} {r : Rs α} {f : α → Store → Rs β} {W : Value → Option Addr → Hp → Prop} {S : Store}
theorem Post.ext {Q : Rho → Hp → α → Store → Prop} (e : Ext ρ H ρ' H') (h : Post K mg hid ρ H r Q W) : Post K mg hid ρ' H' r Q W := by
  cases r with
  | ok a S => exact fun ρ1 H1 e1 r1 => h ρ1 H1 (e.trans e1) r1
  | ex c fs S => exact fun ρ1 H1 cls d e1 r1 x => h ρ1 H1 cls d (e.trans e1) r1 x
  | stuck => exact h
theorem Post.mono {Q Q' : Rho → Hp → α → Store → Prop} (h : Post K mg hid ρ H r Q W) (k : ∀ ρ1 H1 a S1, Ext ρ H ρ1 H1 → RelS K hid ρ1 H1 mg S1 → Q ρ1 H1 a S1 → Q' ρ1 H1 a S1) : Post K mg hid ρ H r Q' W := by
  cases r with
  | ok a S => exact fun ρ1 H1 e1 r1 => k ρ1 H1 a S e1 r1 (h ρ1 H1 e1 r1)
  | ex c fs S => exact h
  | stuck => exact h
theorem Post.bind {Q : Rho → Hp → β → Store → Prop} {Q1 : Rho → Hp → α → Store → Prop} (h : Post K mg hid ρ H (r.bind f) Q W)
    (k : ∀ ρ1 H1 a S1, Ext ρ H ρ1 H1 → RelS K hid ρ1 H1 mg S1 → Post K mg hid ρ1 H1 (f a S1) Q W → Q1 ρ1 H1 a S1) : Post K mg hid ρ H r Q1 W := by
  cases r with
  | ok a S => exact fun ρ1 H1 e1 r1 => k ρ1 H1 a S e1 r1 (Post.ext e1 h)
  | ex c fs S => exact h
  | stuck => exact h
theorem Post.here {Q : Rho → Hp → α → Store → Prop} {a : α} (h : Post K mg hid ρ H (.ok a S) Q W) (R : RelS K hid ρ H mg S) : Q ρ H a S := h ρ H Ext.refl R
theorem Post.of {o : Option α} {Q : Rho → Hp → α → Store → Prop} (h : Post K mg hid ρ H (Rs.of o S) Q W) : ∃ a, o = some a ∧ ∀ ρ' H', Ext ρ H ρ' H' → RelS K hid ρ' H' mg S → Q ρ' H' a S := by
  cases o with
  | none => exact h.elim
  | some a => exact ⟨a, rfl, h⟩
end
section
variable (X : Cx) (W : WX)
/-- f, run in a state that σ and H stand for -/
def Go {α : Type} (σ : L2.St) (H : Hp) (f : MEnv → Store → Rs α) (R : List Addr → Rho → Hp → α → Store → Prop) : Prop :=
  ∃ hid ρ env S, RelS X.K hid ρ H X.mg S ∧ RelE X.K hid ρ H σ env ∧ Post X.K X.mg hid ρ H (f env S) (R hid) fun cls d H' => W cls d σ H'
def tE (c : CE) : TE := fun σ H Q => Go X W σ H (ev c) fun hid ρ H' d _ => ∀ v, Rep X.K hid ρ H' v d → Q v H'
def tA (c : CEs) : TA := fun σ H Q => Go X W σ H (evs c) fun hid ρ H' ds _ => ∀ vs, RepL X.K hid ρ H' vs ds → Q vs H'
def tT (c : CE) : TT := fun σ H Q => Go X W σ H (ev c) fun _ _ H' d _ => ∃ b, d = .bl b ∧ Q b H'
/-- a new list of the items -/
def tL (l : CL) : TE := fun σ H Q => Go X W σ H (evL l) fun hid ρ H' ds _ => ∀ xs p, RepL X.K hid ρ H' xs ds → H' p = none → Q (.ref p) (upd H' p (.lst xs))
/-- an optional whole number -/
def tO (c : CO) : TO := fun σ H Q => Go X W σ H (evN c) fun _ _ H' o _ => Q o H'
end
section
variable {X : Cx} {W : WX} {σ : L2.St} {H : Hp}
theorem Go.bind {α β : Type} {f : MEnv → Store → Rs α} {g : MEnv → α → Store → Rs β} {R : List Addr → Rho → Hp → β → Store → Prop} {R1 : List Addr → Rho → Hp → α → Store → Prop}
    (h : Go X W σ H (fun env S => (f env S).bind (g env)) R)
    (k : ∀ hid ρ1 H1 a S1 env, RelS X.K hid ρ1 H1 X.mg S1 → RelE X.K hid ρ1 H1 σ env → Post X.K X.mg hid ρ1 H1 (g env a S1) (R hid) (fun cls d H' => W cls d σ H') → R1 hid ρ1 H1 a S1) : Go X W σ H f R1 := by
  obtain ⟨hid, ρ, env, S, r, e, p⟩ := h
  exact ⟨hid, ρ, env, S, r, e, p.bind fun ρ1 H1 a S1 x r1 p1 => k hid ρ1 H1 a S1 env r1 (e.mono x) p1⟩
theorem PE.imp {e : PySem.Expr} {t t' : TE} (h : PE X e t) (w : ∀ σ H Q, t' σ H Q → t σ H Q) : PE X e t' := ⟨fun pins s σ H Q I hw => h.run pins s σ H Q I (w σ H Q hw)⟩
theorem PT.imp {e : PySem.Expr} {t t' : TT} (h : PT X e t) (w : ∀ σ H Q, t' σ H Q → t σ H Q) : PT X e t' := ⟨fun pins s σ H Q I hw => h.run pins s σ H Q I (w σ H Q hw)⟩
theorem PA.imp {e : List PySem.Expr} {t t' : TA} (h : PA X e t) (w : ∀ σ H Q, t' σ H Q → t σ H Q) : PA X e t' := ⟨fun pos pins s σ H Q I hw => h.run pos pins s σ H Q I (w σ H Q hw)⟩
theorem PS.imp {e : PySem.Stmt} {t t' : TS} (h : PS X e t) (w : ∀ D σ H, t' D σ H → t D σ H) : PS X e t' := ⟨fun pins s σ H D I hw => h.run pins s σ H D I (w D σ H hw)⟩
theorem PSs.imp {e : List PySem.Stmt} {t t' : TS} (h : PSs X e t) (w : ∀ D σ H, t' D σ H → t D σ H) : PSs X e t' := ⟨fun pins s σ H D I hw => h.run pins s σ H D I (w D σ H hw)⟩
theorem PO.imp {e : Option PySem.Expr} {t t' : TO} (h : PO X e t) (w : ∀ σ H Q, t' σ H Q → t σ H Q) : PO X e t' := ⟨fun pins s σ H Q I hw => h.run pins s σ H Q I (w σ H Q hw)⟩
variable {c a b : CE} {e ea eb ec : PySem.Expr} {pos : Pos}
/-! ### names and constants -/
theorem s_var {i : Nat} {x : Str} (hN : X.N[i]? = some x) (hv : Vis X.env.scope x) (hd : (x == ("__debug__" : Str)) = false) (hcd : (x == ("__classdict__" : Str)) = false) : PE X (.Name x pos) (tE X W (.var i)) := by
  refine PE.imp (pe_var hN hv hd hcd) fun σ H Q h => ?_
  obtain ⟨hid, ρ, env, S, r, re, p⟩ := h
  rw [show ev (.var i) env S = (match env[i]? with | some (some d) => .ok d S | _ => .stuck) from rfl] at p
  cases q : env[i]? with
  | none => rw [q] at p; exact p.elim
  | some o =>
    cases o with
    | none => rw [q] at p; exact p.elim
    | some d =>
      rw [q] at p
      obtain ⟨v, h1, h2⟩ := re.at_ i d q
      exact ⟨v, h1, p.here r v h2⟩
theorem s_frz {i : Nat} {x : Str} (hN : X.N[i]? = some x) (hv : Vis X.env.scope x) (hd : (x == ("__debug__" : Str)) = false) (hcd : (x == ("__classdict__" : Str)) = false) : PE X (.Name x pos) (tE X W (.frz i)) := by
  refine PE.imp (pe_var hN hv hd hcd) fun σ H Q h => ?_
  obtain ⟨hid, ρ, env, S, r, re, p⟩ := h
  have p' : Post X.K X.mg hid ρ H (match env[i]? with | some (some (.ptr n)) => (match S[n]? with | some (.lst ds) => .ok (.lst ds) (S.set n .dead) | _ => .stuck) | _ => .stuck) (fun ρ H' d _ => ∀ v, Rep X.K hid ρ H' v d → Q v H') (fun cls d H' => W cls d σ H') := p
  split at p'
  · rename_i n q
    split at p'
    · rename_i ds q2
      obtain ⟨v, h1, h2⟩ := re.at_ i _ q
      obtain ⟨a, ha, hl, xs, hx, rx⟩ := r.at_ q2 (by simp)
      have ev := h2.ptr_ref ha
      subst ev
      obtain ⟨f1, f2, f3, f4⟩ := r.freeze ha
      exact ⟨_, h1, p' _ _ f1 f2 _ (.lst hx f3 f4 (rx.mono f1))⟩
    · exact p'.elim
  · exact p'.elim
theorem s_const {v : V} {d : D} (he : PE X e (tC v)) (hc : ∀ env S, ev c env S = .ok d S) (hr : ∀ hid ρ H, Rep X.K hid ρ H v d) : PE X e (tE X W c) := by
  refine PE.imp he fun σ H Q h => ?_
  obtain ⟨hid, ρ, env, S, r, re, p⟩ := h
  rw [hc] at p
  exact p.here r v (hr _ _ _)
theorem sm64_ok {i : Int} (h : sm64 i = true) : -(2 ^ 64) < i ∧ i < 2 ^ 64 := by
  have h' : i.natAbs < 18446744073709551616 := of_decide_eq_true h
  have e : (2 : Int) ^ 64 = 18446744073709551616 := by decide
  rw [e]; omega
/-! ### operators, by values -/
/-- what an operation on data hands back, by values -/
def rD (X : Cx) (f : D → D → Store → Option D) : R2 := fun x y H Q => ∃ hid ρ S dx dy d, RelS X.K hid ρ H X.mg S ∧ Rep X.K hid ρ H x dx ∧ Rep X.K hid ρ H y dy ∧ f dx dy S = some d ∧
  ∀ ρ' H' v, Ext ρ H ρ' H' → RelS X.K hid ρ' H' X.mg S → Rep X.K hid ρ' H' v d → Q v H'
theorem go_op {f : D → D → Store → Option D} {Q : VK} (h : Go X W σ H (fun env S => (ev a env S).bind fun x S => (ev b env S).bind fun y S => Rs.of (f x y S) S) fun hid ρ H' d _ => ∀ v, Rep X.K hid ρ H' v d → Q v H') :
    tOp (rD X f) (tE X W a) (tE X W b) σ H Q := by
  refine h.bind fun hid ρ1 H1 dx S1 env r1 e1 p1 x rx => ?_
  refine ⟨hid, ρ1, env, S1, r1, e1, p1.bind fun ρ2 H2 dy S2 ex r2 p2 y ry => ?_⟩
  obtain ⟨d, hd, k⟩ := p2.of
  exact ⟨hid, ρ2, S2, dx, dy, d, r2, rx.mono ex, ry, hd, fun ρ' H' v e' r' rv => k ρ' H' e' r' v rv⟩
def opOf : BOp → Operator
  | .add => .Add | .sub => .Sub | .mul => .Mult | .fdiv => .FloorDiv | .mod => .Mod | .pow => .Pow
def cmpOf : COp → CmpOp
  | .eq => .Eq | .ne => .NotEq | .lt => .Lt | .le => .LtE | .gt => .Gt | .ge => .GtE | .inn => .In | .notin => .NotIn
theorem op_fdivZ : OpR X (binaryOp .FloorDiv) (rI (fun _ j => j ≠ 0 ∧ j.natAbs.log2 < 9000) fun i j => .int (i.fdiv j)) := opI fun i j _ _ _ _ _ hc q =>
  PyProof.Rows.floordiv_int hc.1 q (.inl (PyProof.noPylong_of_log2 hc.2))
theorem line_ge : (1000000 : Nat) < sizeLine := by rw [sizeLine_eq]; decide
theorem le_line {n : Nat} (h : n ≤ 1000000) : n ≤ sizeLine := Nat.le_of_lt (Nat.lt_of_le_of_lt h line_ge)
theorem lt_line {n : Nat} (h : n < 1000000) : n < sizeLine := Nat.lt_trans h line_ge
/-- a list of data, at a -/
theorem lst_at {hid : List Addr} {ρ : Rho} {S : Store} {x : V} {d : D} {ds : List D} (r : RelS X.K hid ρ H X.mg S) (rx : Rep X.K hid ρ H x d)
    (h : d = .lst ds ∨ ∃ n, d = .ptr n ∧ S[n]? = some (.lst ds)) : ∃ a xs, x = .ref a ∧ H a = some (.lst xs) ∧ RepL X.K hid ρ H xs ds := by
  rcases h with e | ⟨n, e, h⟩
  · subst e
    cases rx with
    | lst h1 _ _ h4 => exact ⟨_, _, rfl, h1, h4⟩
  · subst e
    obtain ⟨a, ha, _, xs, hx, rl⟩ := r.at_ h (by simp)
    exact ⟨a, xs, rx.ptr_ref ha, hx, rl⟩
theorem new_lst {hid : List Addr} {ρ : Rho} {S : Store} {p : Addr} {xs : List V} {ds : List D} (r : RelS X.K hid ρ H X.mg S) (rl : RepL X.K hid ρ H xs ds) (hp : H p = none) :
    Ext ρ H ρ (upd H p (.lst xs)) ∧ RelS X.K hid ρ (upd H p (.lst xs)) X.mg S ∧ Rep X.K hid ρ (upd H p (.lst xs)) (.ref p) (.lst ds) := by
  obtain ⟨f1, f2⟩ := r.fresh hp
  have s := same_new (o := HO.lst xs) hp
  exact ⟨Ext.same s, r.same s, .lst upd_same f1 f2 (rl.mono (Ext.same s))⟩
theorem new_tup {hid : List Addr} {ρ : Rho} {S : Store} {p : Addr} {xs : List V} {ds : List D} (r : RelS X.K hid ρ H X.mg S) (rl : RepL X.K hid ρ H xs ds) (hp : H p = none) :
    Ext ρ H ρ (upd H p (.tup xs)) ∧ RelS X.K hid ρ (upd H p (.tup xs)) X.mg S ∧ Rep X.K hid ρ (upd H p (.tup xs)) (.ref p) (.tup ds) := by
  obtain ⟨f1, f2⟩ := r.fresh hp
  have s := same_new (o := HO.tup xs) hp
  exact ⟨Ext.same s, r.same s, .tup upd_same f1 f2 (rl.mono (Ext.same s))⟩
theorem opD_cat {x y : V} {hid : List Addr} {ρ : Rho} {S : Store} {dx dy : D} {as bs : List D} {pins : List (Addr × Obj)} {s : Shared} {v u : Value} {Q : VK} (I : Inv X pins σ H s) (rx : RelV x v) (ry : RelV y u)
    (r : RelS X.K hid ρ H X.mg S) (hx : Rep X.K hid ρ H x dx) (hy : Rep X.K hid ρ H y dy)
    (ha : dx = .lst as ∨ ∃ n, dx = .ptr n ∧ S[n]? = some (.lst as)) (hb : dy = .lst bs ∨ ∃ n, dy = .ptr n ∧ S[n]? = some (.lst bs))
    (hz : as.length + bs.length ≤ 1000000) (k : ∀ ρ' H' v, Ext ρ H ρ' H' → RelS X.K hid ρ' H' X.mg S → Rep X.K hid ρ' H' v (.lst (as ++ bs)) → Q v H') :
    wpAny (model X.prog X.w) X.A (binaryOp .Add v u) (EP X pins σ Q) X.xe s := by
  obtain ⟨a, xs, rfl, h1, l1⟩ := lst_at r hx ha
  obtain ⟨b, ys, rfl, h2, l2⟩ := lst_at r hy hb
  refine op_cat pins s σ H _ _ v u Q I rx ry ⟨a, b, xs, ys, rfl, rfl, h1, h2, le_line (by rw [l1.length, l2.length]; exact hz), fun p hp => ?_⟩
  obtain ⟨q1, q2, q3⟩ := new_lst r (l1.append l2) hp
  exact k _ _ _ q1 q2 q3
theorem repL_reps {K : PySem.W.Frag} {hid : List Addr} {ρ : Rho} {H : Hp} {xs : List V} {ds : List D} (n : Nat) (h : RepL K hid ρ H xs ds) : RepL K hid ρ H (List.replicate n xs).flatten (List.replicate n ds).flatten := by
  induction n with
  | zero => exact .nil
  | succ n ih => rw [List.replicate_succ, List.replicate_succ, List.flatten_cons, List.flatten_cons]; exact h.append ih
theorem op_mulS : OpR X (binaryOp .Mult) (fun x y H Q => ∃ (a : Str) (k : Int), x = .str a ∧ y = .int k ∧ a.length ≤ 1000 ∧ -1000 ≤ k ∧ k ≤ 1000 ∧ Q (.str (Txt.mul a k)) H) := by
  intro pins s σ H x y v u Q I rx ry h
  obtain ⟨a, k, rfl, rfl, h1, h2, h3, q⟩ := h
  obtain ⟨t, rfl⟩ := rx
  obtain ⟨t', rfl⟩ := ry
  exact PySem.SB.mul (PyProof.Rows.mulOk_of 1000 1000 h1 (by omega) (by omega) (by omega) (by omega)) fun t'' n => ⟨.str (Txt.mul a k), H, I.tok n, ⟨t'', rfl⟩, q⟩
theorem opD (op : BOp) : OpR X (binaryOp (opOf op)) (rD X (binD op)) := by
  intro pins s σ H x y v u Q I rx ry h
  obtain ⟨hid, ρ, S, dx, dy, d, r, hx, hy, hd, k⟩ := h
  have fin : ∀ i j : Int, dx = .int i → dy = .int j → x = .int i ∧ y = .int j := fun i j e1 e2 => by
    subst e1 e2; cases hx; cases hy; exact ⟨rfl, rfl⟩
  have out : ∀ i : Int, d = .int i → Q (.int i) H := fun i e => by
    subst e; exact k ρ H _ Ext.refl r (.int i)
  cases op with
  | add =>
    unfold binD at hd
    dsimp only at hd
    split at hd
    · split at hd
      · rename_i i _ j
        obtain ⟨rfl, rfl⟩ := fin i j rfl rfl
        exact op_add pins s σ H _ _ v u Q I rx ry ⟨i, j, rfl, rfl, out _ (Option.some.inj hd).symm⟩
      · cases hd
    · split at hd
      · rename_i i _ j
        split at hd
        · rename_i hz
          cases hx; cases hy
          cases hd
          exact op_add_str pins s σ H _ _ v u Q I rx ry ⟨i, j, rfl, rfl, le_line hz, k ρ H _ Ext.refl r (.str _)⟩
        · cases hd
      · cases hd
    · split at hd
      · split at hd
        · rename_i as bs hz
          cases hx with
          | tup h1 h2 h3 h4 =>
            cases hy with
            | tup g1 g2 g3 g4 =>
              rename_i a xs b ys
              cases hd
              refine op_catA pins s σ H _ _ v u Q I rx ry ⟨_, _, xs, ys, rfl, rfl, SqT.of h1, SqT.of g1, le_line (by rw [h4.length, g4.length]; exact hz), fun e => ?_, fun _ e => ?_, fun _ _ p hp => ?_⟩
              · subst e
                cases h4
                exact k ρ H _ Ext.refl r (.tup g1 g2 g3 (by simpa using g4))
              · subst e
                cases g4
                exact k ρ H _ Ext.refl r (.tup h1 h2 h3 (by simpa using h4))
              · obtain ⟨q1, q2, q3⟩ := new_tup r (h4.append g4) hp
                exact k _ _ _ q1 q2 q3
        · cases hd
      · cases hd
    · split at hd
      · split at hd
        · rename_i hz; cases hd
          exact opD_cat I rx ry r hx hy (.inl rfl) (.inl rfl) hz k
        · cases hd
      · split at hd
        · rename_i e
          split at hd
          · rename_i hz; cases hd
            exact opD_cat I rx ry r hx hy (.inl rfl) (.inr ⟨_, rfl, e⟩) hz k
          · cases hd
        · cases hd
      · cases hd
    · split at hd
      · rename_i e0
        split at hd
        · split at hd
          · rename_i hz; cases hd
            exact opD_cat I rx ry r hx hy (.inr ⟨_, rfl, e0⟩) (.inl rfl) hz k
          · cases hd
        · split at hd
          · rename_i e
            split at hd
            · rename_i hz; cases hd
              exact opD_cat I rx ry r hx hy (.inr ⟨_, rfl, e0⟩) (.inr ⟨_, rfl, e⟩) hz k
            · cases hd
          · cases hd
        · cases hd
      · cases hd
    · cases hd
  | sub =>
    unfold binD at hd
    dsimp only at hd
    split at hd
    · split at hd
      · rename_i i _ j
        obtain ⟨rfl, rfl⟩ := fin i j rfl rfl
        exact op_sub pins s σ H _ _ v u Q I rx ry ⟨i, j, rfl, rfl, out _ (Option.some.inj hd).symm⟩
      · cases hd
    · cases hd
  | mul =>
    unfold binD at hd
    dsimp only at hd
    split at hd
    · split at hd
      · rename_i i _ j
        split at hd
        · rename_i hz
          obtain ⟨rfl, rfl⟩ := fin i j rfl rfl
          have hz : (sm64 i || sm64 j || decide (i.natAbs.log2 + j.natAbs.log2 < 1000000)) = true := hz
          rcases Bool.or_eq_true_iff.mp hz with hz | hz
          · refine op_mul pins s σ H _ _ v u Q I rx ry ⟨i, j, rfl, rfl, ?_, out _ (Option.some.inj hd).symm⟩
            rcases Bool.or_eq_true_iff.mp hz with hz | hz
            · exact .inl (sm64_ok hz)
            · exact .inr (sm64_ok hz)
          · exact op_mulW pins s σ H _ _ v u Q I rx ry ⟨i, j, rfl, rfl, of_decide_eq_true (p := i.natAbs.log2 + j.natAbs.log2 < 1000000) hz, out _ (Option.some.inj hd).symm⟩
        · cases hd
      · cases hd
    · split at hd
      · split at hd
        · rename_i a _ j hz
          cases hd
          cases hx; cases hy
          exact op_mulS pins s σ H _ _ v u Q I rx ry ⟨a, j, rfl, rfl, hz.1, hz.2.1, hz.2.2, k ρ H _ Ext.refl r (.str _)⟩
        · cases hd
      · cases hd
    · split at hd
      · split at hd
        · rename_i a _ j hz
          cases hd
          cases hy
          cases hx with
          | lst h1 h2 h3 h4 =>
            refine op_rep pins s σ H _ _ v u Q I rx ry ⟨_, j, _, rfl, rfl, h1, by omega, by omega, by rw [h4.length]; exact le_line hz.1, fun p hp => ?_⟩
            obtain ⟨q1, q2, q3⟩ := new_lst r (repL_reps j.toNat h4) hp
            exact k _ _ _ q1 q2 q3
        · cases hd
      · cases hd
    · cases hd
  | fdiv =>
    unfold binD at hd
    dsimp only at hd
    split at hd
    · split at hd
      · rename_i i _ j
        split at hd
        · rename_i hz
          have hz' : j.natAbs.log2 < 9000 := of_decide_eq_true hz
          obtain ⟨rfl, rfl⟩ := fin i j rfl rfl
          split at hd
          · rename_i hj
            exact op_fdivW pins s σ H _ _ v u Q I rx ry ⟨i, j, rfl, rfl, ⟨hj, hz'⟩, out _ (Option.some.inj hd).symm⟩
          · split at hd
            · rename_i hj
              exact op_fdivZ pins s σ H _ _ v u Q I rx ry ⟨i, j, rfl, rfl, ⟨by omega, hz'⟩, out _ (Option.some.inj hd).symm⟩
            · cases hd
        · cases hd
      · cases hd
    · cases hd
  | mod =>
    unfold binD at hd
    dsimp only at hd
    split at hd
    · split at hd
      · rename_i i _ j
        split at hd
        · rename_i hz
          obtain ⟨rfl, rfl⟩ := fin i j rfl rfl
          exact op_mod pins s σ H _ _ v u Q I rx ry ⟨i, j, rfl, rfl, hz, out _ (Option.some.inj hd).symm⟩
        · cases hd
      · cases hd
    · cases hd
  | pow =>
    unfold binD at hd
    dsimp only at hd
    split at hd
    · split at hd
      · rename_i i _ j
        split at hd
        · rename_i hz
          obtain ⟨rfl, rfl⟩ := fin i j rfl rfl
          exact op_pow pins s σ H _ _ v u Q I rx ry ⟨i, j, rfl, rfl, ⟨hz.1, by omega, by have := hz.2.2; omega⟩, out _ (Option.some.inj hd).symm⟩
        · cases hd
      · cases hd
    · cases hd
theorem s_bin {op : BOp} (ha : PE X ea (tE X W a)) (hb : PE X eb (tE X W b)) : PE X (.BinOp ea (opOf op) eb pos) (tE X W (.bin op a b)) :=
  PE.imp (pe_op (opD op) ha hb) fun σ H Q h => go_op (f := binD op) h
theorem s_neg (ha : PE X ea (tE X W a)) : PE X (.UnaryOp .USub ea pos) (tE X W (.neg a)) := by
  refine PE.imp (pe_un un_neg ha) fun σ H Q h => ?_
  have h' : Go X W σ H (fun env S => (ev a env S).bind fun x S => (match x with | D.int i => Rs.ok (D.int (-i)) S | _ => Rs.stuck)) (fun hid ρ H' d _ => ∀ v, Rep X.K hid ρ H' v d → Q v H') := h
  refine h'.bind fun hid ρ1 H1 dx S1 env r1 e1 p1 x rx => ?_
  split at p1
  · rename_i i
    cases rx
    exact ⟨i, rfl, p1.here r1 _ (.int _)⟩
  · exact p1.elim
end
end MI
namespace MI
section
open PySem PySem.Spec L2 PyProof.Rows
/-! ### sum of a tuple -/
def rSumT (K : PySem.W.Frag) : List V → Hp → VK → Prop := fun vs H Q => ∃ (a : Addr) (ns : List Int), vs = [V.ref a] ∧ SqT K H a (ns.map V.int) ∧ Q (.int ns.sum) H
theorem sum_rawT {prog : Program} {w : World} {A : Around} {E : Value → Shared → Prop} {s : Shared} {l : Addr} {its : List Value} {ns : List Int} {Q : Value → Shared → Prop} (hh : A.handled = none) (hl : s.heap.IsTuple l its.toArray) (hi : IntsAre its ns)
    (h : ∀ h' tk t', (∀ b o, s.heap.get? b = some o → h'.get? b = some o) → Q (.int ns.sum t') { s with heap := h', toks := tk }) : wpAny (model prog w) A (call (.builtin "sum") [.ref l]) Q E s := by
  obtain ⟨xs, e⟩ := hi.allInts.items
  have hn : numsOf (intItems xs).toList = ns := by rw [← e]; exact hi.numsOf
  rw [nums_intItems] at hn
  rw [e] at hl
  refine PySem.W.ktm_sumG hh hl fun h' tk t' hk => ?_
  have := h h' tk t' hk
  rw [preSum_eq, List.take_of_length_le (by simp), hn]; exact this
theorem cr_sumT {X : Cx} (hc : X.calm = true) : CallR X (.builtin "sum") (rSumT X.K) := by
  intro pins s σ H vs us Q I r h
  obtain ⟨a, ns, rfl, hs, q⟩ := h
  obtain ⟨its, rv, ⟨o, ho, hcl, n, hd⟩, _⟩ := I.tuple hs
  rw [Vals.ref1 r]
  exact sum_rawT (I.ok.hd hc) ⟨o, ho, hcl, n, hd⟩ rv.ints fun h' tk t' hk => ⟨.int _, H, I.kept hk, ⟨_, rfl⟩, q⟩
/-! ### enumerate(tuple) -/
open AutoSeq1 (wpAny_loadPart') in
set_option maxHeartbeats 1000000 in
theorem meets_enumerate_newT (l : Addr) (items : Array Value) :
    Meets (Builtin.«enumerate.__new__» ⟨[.type "enumerate", .ref l], []⟩) (fun _ R s => s.heap.IsTuple l items ∧
      R (.ok (.ret (.ref (s.heap.push { cls := .type "tuple_iterator", data := .fields #[.ref l, .int 0 0] }).objs.size)))
        { s with heap := (s.heap.push { cls := .type "tuple_iterator", data := .fields #[.ref l, .int 0 0] }).push { cls := .type "enumerate", data := .fields #[.none, .bool false, .ref s.heap.objs.size, rawInt 0, .none, .none] } }) :=
  .of_wp fun prog w A R s h => by
    obtain ⟨hp, g, d, tk, os⟩ := s; obtain ⟨hl, h⟩ := h
    have hsub := sub_enumerate
    have hL : Heap.IsTuple (Shared.heap ⟨hp, g, d, tk, os⟩) l items := hl
    wp_walk using wpAny_pyIter_tuple hL
    refine wpAny_stack_any fun st => wpAny_pure ?_
    split
    · rename_i c _ _ _ _ _
      cases (c == Value.type "enumerate")
      · wp_walk using wpAny_pyIter_tuple hL
        exact ⟨_, rfl, h⟩
      · wp_walk using wpAny_pyIter_tuple hL
        exact ⟨_, rfl, h⟩
    · wp_walk using wpAny_pyIter_tuple hL
      exact ⟨_, rfl, h⟩
section
variable {prog : Program} {w : World} {A : Around} {E : Value → Shared → Prop} {s : Shared}
theorem call_enumerate_tuple {l : Addr} {items : Array Value} {Q : Value → Shared → Prop} (hL : s.heap.IsTuple l items)
    (h : ∀ h', IsEnum h' (s.heap.objs.size + 1) s.heap.objs.size 0 .none → h'.IsTupleIter s.heap.objs.size l 0 → h'.objs.size = s.heap.objs.size + 2 →
      (∀ b o, s.heap.get? b = some o → h'.get? b = some o) → Q (.ref (s.heap.objs.size + 1)) { s with heap := h' }) :
    wpAny (model prog w) A (call (.type "enumerate") [.ref l]) Q E s := by
  refine callType_new F.called_enumerate (by decide) (F.typeCall_enumerate_1 _) (F.newCall_enumerate_1 _) (fun obj => F.args_object_init_2 obj _) F.entry_enumerate_new
    (meets_enumerate_newT l items) ⟨hL, ?_⟩
  have hz : (s.heap.push { cls := .type "tuple_iterator", data := .fields #[.ref l, .int 0 0] }).objs.size = s.heap.objs.size + 1 := Heap.size_push ..
  show _ ∧ _
  rw [hz]
  have he : IsEnum ((s.heap.push { cls := .type "tuple_iterator", data := .fields #[.ref l, .int 0 0] }).push
      { cls := .type "enumerate", data := .fields #[.none, .bool false, .ref s.heap.objs.size, rawInt 0, .none, .none] }) (s.heap.objs.size + 1) s.heap.objs.size 0 .none := by
    have := Heap.get?_push_size (s.heap.push { cls := .type "tuple_iterator", data := .fields #[.ref l, .int 0 0] })
      (o := { cls := .type "enumerate", data := .fields #[.none, .bool false, .ref s.heap.objs.size, rawInt 0, .none, .none] }) rfl
    rw [hz] at this; exact this
  refine ⟨⟨_, he, rfl⟩, h _ he ⟨_, Heap.get?_push_of_some _ (Heap.get?_push_size _ rfl), rfl, rfl⟩ (by rw [Heap.size_push, hz]) fun b o x => Heap.get?_push_of_some _ (Heap.get?_push_of_some _ x)⟩
theorem enum_endT {e it l : Addr} {i : Nat} {c : Int} {items : Array Value} {old : Value} {Q : Option Value → Shared → Prop} (hh : A.handled = none)
    (he : IsEnum s.heap e it c old) (hit : s.heap.IsTupleIter it l i) (hl : s.heap.IsTuple l items) (hx : items[i]? = none)
    (hQ : ∀ h', Heap.ExtBut it s.heap h' → Q none { s with heap := h' }) : wpAny (model prog w) A (pyNext (.ref e)) Q E s := by
  have hT : s.TypeIs (.ref e) "enumerate" := ⟨_, he, rfl⟩
  unfold pyNext
  refine wpAny_bind (wpAny_attempt (wpAny_callSpecial?_slot (name := Str.ofString "__next__") hT F.slot_enumerate_next
    (wpAny_call_entry F.slot_enumerate_next hT F.entry_enumerate_next ?_ (F.args_enumerate_next_1 _))))
  show wpAny _ _ (field (.ref e) 2 >>= _) _ _ _
  refine wpAny_bind (wpAny_field he rfl (x := .ref it) rfl ?_)
  refine wpAny_bind (wpAny_nextOf_tuple_end (show A.in1.handled = none from hh) hit hl hx fun h' x he' hx' => ?_)
  obtain ⟨o, ho, hc⟩ := hx'
  refine wpAny_bind (wpAny_isInstance (T := "StopIteration") (b := true) ⟨o, ho, hc⟩ isSubtype_stop ?_)
  exact wpAny_pure (hQ _ he')
end
/-- the tuple at a, each item in a new pair -/
def Itet (K : PySem.W.Frag) (a : Addr) : It :=
  ⟨fun i H => ∃ (xs : List V) (x : V), SqT K H a xs ∧ xs[i]? = some x, fun i H v H' => ∃ T x, v = .ref T ∧ H T = none ∧ H' = upd H T (.tup [.int (i : Nat), x]) ∧ ∀ xs, SqT K H a xs → xs[i]? = some x, fun i H => ∃ xs : List V, SqT K H a xs ∧ xs.length ≤ i⟩
theorem turn_enumT {P : Program} {w : World} {K : PySem.W.Frag} {elts : List Expr} {kk : Nat} {tpos : Pos} (a e it : Addr) :
    Turn P w K (.Tuple elts kk tpos) (Itet K a) [e, it] e (fun i h => (∃ old, IsEnum h e it ((i : Nat) : Int) old) ∧ h.IsTupleIter it a i ∧ e ≠ it ∧ e ≠ a ∧ a ≠ it) where
  mem := by simp
  obj := fun i h st b hb => by
    obtain ⟨⟨old, he⟩, ⟨o, ho, hc, hd⟩, _⟩ := st
    have e' : b = e ∨ b = it := by simpa using hb
    rcases e' with z | z
    · rw [z]; exact ⟨_, he, fun v q => nomatch q⟩
    · rw [z]; exact ⟨o, ho, fun v q => by rw [hd] at q; cases q⟩
  keep := fun i h h' st k => let ⟨⟨old, he⟩, hi, hne⟩ := st; ⟨⟨old, k e (by simp) _ he⟩, hi.at fun o q => k it (by simp) o q, hne⟩
  item := by
    intro X hP hw hK hc i pins s σ H E I hf st hg
    subst hP hw hK
    obtain ⟨⟨old, he⟩, hit, hne, hea, hai⟩ := st
    obtain ⟨xs, x, hq, hx⟩ := hg
    obtain ⟨its, rv, p, hz⟩ := I.tuple hq
    obtain ⟨u, hu, ru⟩ := rv.get hx
    have hel : e < s.heap.objs.size := Heap.lt_size he
    have hil : it < s.heap.objs.size := by obtain ⟨_, q, _⟩ := hit; exact Heap.lt_size q
    have hlt : i < its.toArray.size := by
      have := (List.getElem?_eq_some_iff.mp hu).1
      simpa using this
    have hh : X.A.in1.handled = none := I.ok.hd hc
    have pt : s.heap.IsTuple a its.toArray := let ⟨o, ho, hc2, n, hd⟩ := p; ⟨o, ho, hc2, n, hd⟩
    refine wpAny_pyNext_enum_itemD (Draws.tuple hh it a hai its.toArray) he ⟨hit, pt⟩ hlt hne (by simp; exact ⟨hne, hea⟩) fun u' h' tk' hP' ho hst hT hsz hk => ?_
    have eu : u' = u := by
      have : its.toArray[i]? = some u := by simpa using hu
      rw [this] at hP'
      exact (Option.some.inj hP').symm
    subst eu
    refine ⟨_, rfl, wpAny_letOwnedTupleGo_enum (s := { s with heap := h', toks := tk' + 1 }) ho fun h'' he' sb => ?_⟩
    have hT2 : h''.get? s.heap.objs.size = some { cls := .type "tuple", data := .seq #[.int i tk', u'] } := (sb.2 _ (Nat.ne_of_gt hel)).trans hT
    have new : ObjOk X.prog X.w (upd H s.heap.objs.size (.tup [.int (i : Nat), x])) h'' s.heap.objs.size (.tup [.int (i : Nat), x]) :=
      ⟨by show 2 ≤ sizeLine; decide, [.int i tk', u'], .cons ⟨_, rfl⟩ (.cons ru .nil), ⟨_, hT2, rfl, _, rfl⟩⟩
    have I1 : Inv X pins σ (upd H s.heap.objs.size (.tup [.int (i : Nat), x])) { s with heap := h'', toks := tk' + 1 } :=
      I.turnedNew (ch := [e, it]) (fun b ob hb q => (sb.2 b (fun z => hb (by simp [z]))).trans (hk b ob (fun z => hb (by simp [z])) (fun z => hb (by simp [z])) q)) hf (Nat.le_refl _) new
    refine ⟨.ref s.heap.objs.size, _, I1, rfl, ⟨_, x, rfl, I.hok.fresh (Nat.le_refl _), rfl, fun ys hy => by rw [I.tuple_inj hy hq]; exact hx⟩, ⟨⟨u', ?_⟩, hst.1.at fun o q => (sb.2 it (Ne.symm hne)).trans q, hne, hea, hai⟩, fun b hb => ?_⟩
    · have e1 : ((i + 1 : Nat) : Int) = (i : Int) + 1 := by omega
      rw [e1]; exact he'
    · have hb' : b < s.heap.objs.size := by
        have e' : b = e ∨ b = it := by simpa using hb
        rcases e' with z | z
        · rw [z]; exact hel
        · rw [z]; exact hil
      rw [upd_ne (Nat.ne_of_lt hb')]
      exact (hf b hb).1
  done := by
    intro X hP hw hK hc i pins s σ H E I hf st hg
    subst hP hw hK
    obtain ⟨⟨old, he⟩, hit, hne, hea, hai⟩ := st
    obtain ⟨xs, hq, hx⟩ := hg
    obtain ⟨its, rv, p, hz⟩ := I.tuple hq
    obtain ⟨f0, f1, f2, f3, f4, f5⟩ := hf it (by simp)
    have hl := rv.length
    have pt : s.heap.IsTuple a its.toArray := let ⟨o, ho, hc2, n, hd⟩ := p; ⟨o, ho, hc2, n, hd⟩
    exact enum_endT (I.ok.hd hc) he hit pt (by simp; omega) fun h' eb => ⟨rfl, I.turned (t' := s.toks) (fun b o hb q => eb b o hb q) f0 f1 f3 f4 f5⟩
  self := fun A i s Q E st h => let ⟨⟨_, he⟩, _⟩ := st; wpAny_pyIter_enum he h
def iEnumT (K : PySem.W.Frag) (ta : TA) : TI := fun σ H R => ta σ H fun vs H1 => ∃ a xs, vs = [.ref a] ∧ SqT K H1 a xs ∧ R (Itet K a) H1
theorem pi_enumT {X : Cx} {e : Expr} {ta : TA} {p pos tpos : Pos} {elts : List Expr} {kk : Nat} (hg : Gl X "enumerate") (hm : X.mg "enumerate" = none) (ha : PA X [e] ta) (hs : starEach [e] X.env = [(false, eval e X.env)] := by rfl) :
    PI X (.Tuple elts kk tpos) (.Call (.Name "enumerate" p) [e] [] pos) (iEnumT X.K ta) := by
  refine ⟨fun pins s σ H R I h => ?_⟩
  refine Call_ (ld_blt I hg hm boot_enumerate (PyProof.Rows.callWith_type1 (thn (ha.run pos pins s σ H _ I h) fun us s1 ⟨vs, H1, I1, r1, q1⟩ => ?_) hs rfl))
  obtain ⟨a, xs, ex, hq, q⟩ := q1
  subst ex
  cases r1 with
  | cons r rr =>
    cases rr
    cases r
    obtain ⟨its, rv, p', hz⟩ := I1.tuple hq
    have pt : s1.heap.IsTuple a its.toArray := let ⟨o, ho, hc2, n, hd⟩ := p'; ⟨o, ho, hc2, n, hd⟩
    have al : a < s1.heap.objs.size := by obtain ⟨o, ho, _⟩ := pt; exact Heap.lt_size ho
    refine call_enumerate_tuple pt fun h' he hit hsz hk => wpAny_pyIter_enum he ?_
    have I2 : Inv X pins σ H1 { s1 with heap := h' } := I1.kept (t' := s1.toks) hk
    refine ⟨s1.heap.objs.size + 1, [s1.heap.objs.size + 1, s1.heap.objs.size], _, _, H1, rfl, I2, turn_enumT a (s1.heap.objs.size + 1) s1.heap.objs.size, ⟨⟨.none, he⟩, hit, Nat.succ_ne_self _, Nat.ne_of_gt (Nat.lt_succ_of_lt al), Nat.ne_of_lt al⟩, fun b hb => ?_, q⟩
    have e' : b = s1.heap.objs.size + 1 ∨ b = s1.heap.objs.size := by simpa using hb
    have hle : s1.heap.objs.size ≤ b := by
      rcases e' with z | z
      · rw [z]; exact Nat.le_add_right _ _
      · rw [z]; exact Nat.le_refl _
    exact I1.fpOk hle (I1.hok.fresh hle)
/-! ### xs.remove(y), y there -/
def rRemD (K : PySem.W.Frag) : V → List V → Hp → VK → Prop := fun x vs H Q => ∃ (l : Addr) (xs : List V) (y : V) (ds : List PyData) (d : PyData) (j : Nat), x = .ref l ∧ vs = [y] ∧ H l = some (.lst xs) ∧ DpAll K H xs ds ∧ Dp K H y d ∧
  PyData.plainAll ds = true ∧ d.plain = true ∧ d.depth ≤ 64 ∧ SeqAt.dataPlace ds d = some j ∧ Q .non (upd H l (.lst (xs.eraseIdx j)))
theorem mt_remD {X : Cx} (hu : X.A.units + 65 < cLine) : MtM X "list.remove" (rRemD X.K) := by
  intro pins s σ H x xs v us Q I rx rxs h
  obtain ⟨l, ys, y, ds, d, j, rfl, rfl, hH, ha, hd, p1, p2, p3, hp, q⟩ := h
  cases rx
  obtain ⟨u, rfl, ru⟩ := rxs.one
  obtain ⟨z, its, n, r, hl, e⟩ := I.lstM hH
  obtain ⟨as, r1⟩ := Dp.readsAll I ds ys its ha r
  obtain ⟨bs, r2⟩ := Dp.reads I d y u hd ru
  refine SeqAt.remove_list_data (vs := its.toArray) ⟨_, e, rfl, n, rfl⟩ (by simpa using r1) r2 p1 p2 ?_ hp (by rw [List.size_toArray]; omega) ⟨.non, _, I.lset (its' := its.eraseIdx j) (t' := s.toks) hH e ?_ (r.eraseIdx j) ?_, rfl, q⟩
  · have := Nat.min_le_right (PyData.depthAll ds) d.depth
    omega
  · show its.toArray.eraseIdxIfInBounds j = (its.eraseIdx j).toArray
    rw [List.eraseIdxIfInBounds_toArray]
  · have := len_erase ys j
    omega
end
end MI
namespace MI
open PySem PySem.Spec L2
section
variable {K : PySem.W.Frag} {mg : Str → Option Value} {hid : List Addr} {ρ ρ' : Rho} {H H' : Hp} {S : Store}
mutual
theorem Rep.dp : ∀ (d : D) (n : Nat) {v : V}, Rep K hid ρ H v d → d.fit n = true → Dp K H v d.py
  | .non, _, _, h, _ => by cases h; simp only [D.py]; exact .non
  | .bl b, _, _, h, _ => by cases h; simp only [D.py]; exact .bl b
  | .int b, _, _, h, _ => by cases h; simp only [D.py]; exact .int b
  | .str b, _, _, h, _ => by cases h; simp only [D.py]; exact .str b
  | .tup ds, n, _, h, f => by
    cases h with
    | tup h1 h2 h3 h4 =>
      cases n with
      | zero => simp [D.fit] at f
      | succ n => simp only [D.py]; exact .tup (SqT.of h1) (RepL.dp ds n h4 (by simpa [D.fit] using f))
  | .lst ds, n, _, h, f => by
    cases h with
    | lst h1 h2 h3 h4 =>
      cases n with
      | zero => simp [D.fit] at f
      | succ n => simp only [D.py]; exact .lst (SqL.of h1) (RepL.dp ds n h4 (by simpa [D.fit] using f))
  | .con ds, _, _, _, f => by simp [D.fit] at f
  | .scr ds, _, _, _, f => by simp [D.fit] at f
  | .ptr ds, _, _, _, f => by simp [D.fit] at f
theorem RepL.dp : ∀ (ds : List D) (n : Nat) {vs : List V}, RepL K hid ρ H vs ds → fitL ds n = true → DpAll K H vs (pyL ds)
  | [], _, _, h, _ => by cases h; simp only [pyL]; exact .nil
  | d :: ds, n, _, h, f => by
    cases h with
    | cons h1 h2 =>
      have f' : d.fit n = true ∧ fitL ds n = true := by simpa [fitL] using f
      simp only [pyL]
      exact .cons (Rep.dp d n h1 f'.1) (RepL.dp ds n h2 f'.2)
end
mutual
theorem fit_shape : ∀ (d : D) (n : Nat), d.fit n = true → d.py.canLay0 = true ∧ d.py.depth ≤ n
  | .non, _, _ => by simp [D.py, PyData.canLay0, PyData.depth]
  | .bl b, _, _ => by simp [D.py, PyData.canLay0, PyData.depth]
  | .int b, _, _ => by simp [D.py, PyData.canLay0, PyData.depth]
  | .str b, _, f => by simpa [D.py, PyData.canLay0, PyData.depth, D.fit] using f
  | .tup ds, n, f => by
    cases n with
    | zero => simp [D.fit] at f
    | succ n =>
      obtain ⟨h1, h2⟩ := fitL_shape ds n (by simpa [D.fit] using f)
      simp only [D.py, PyData.canLay0, PyData.depth]
      exact ⟨h1, by omega⟩
  | .lst ds, n, f => by
    cases n with
    | zero => simp [D.fit] at f
    | succ n =>
      obtain ⟨h1, h2⟩ := fitL_shape ds n (by simpa [D.fit] using f)
      simp only [D.py, PyData.canLay0, PyData.depth]
      exact ⟨h1, by omega⟩
  | .con ds, _, f => by simp [D.fit] at f
  | .scr ds, _, f => by simp [D.fit] at f
  | .ptr ds, _, f => by simp [D.fit] at f
theorem fitL_shape : ∀ (ds : List D) (n : Nat), fitL ds n = true → PyData.canLayAll0 (pyL ds) = true ∧ PyData.depthAll (pyL ds) ≤ n
  | [], _, _ => by simp [pyL, PyData.canLayAll0, PyData.depthAll]
  | d :: ds, n, f => by
    have f' : d.fit n = true ∧ fitL ds n = true := by simpa [fitL] using f
    obtain ⟨h1, h2⟩ := fit_shape d n f'.1
    obtain ⟨h3, h4⟩ := fitL_shape ds n f'.2
    simp only [pyL, PyData.canLayAll0, PyData.depthAll, h1, h3]
    exact ⟨rfl, by omega⟩
end
theorem fit_shaped {d : D} (f : d.fit 50 = true) : SeqAt.shaped d.py = true := by
  obtain ⟨h1, h2⟩ := fit_shape d 50 f
  show (d.py.canLay0 && decide (d.py.depth ≤ 64)) = true
  rw [Bool.and_eq_true]
  exact ⟨h1, decide_eq_true (by omega)⟩
theorem fitL_shaped {ds : List D} (f : fitL ds 50 = true) : SeqAt.shaped (.list (pyL ds)) = true := by
  obtain ⟨h1, h2⟩ := fitL_shape ds 50 f
  show (PyData.canLayAll0 (pyL ds) && decide (PyData.depthAll (pyL ds) + 1 ≤ 64)) = true
  rw [Bool.and_eq_true]
  exact ⟨h1, decide_eq_true (by omega)⟩
mutual
theorem eqD_py : ∀ (x y : D) {b : Bool}, eqD x y = some b → PyData.eqv x.py y.py = b
  | .non, y, b, h => by cases y <;> simp_all [eqD, D.py, PyData.eqv]
  | .bl a, y, b, h => by cases y <;> simp_all [eqD, D.py, PyData.eqv]
  | .int a, y, b, h => by cases y <;> simp_all [eqD, D.py, PyData.eqv]
  | .str a, y, b, h => by cases y <;> simp_all [eqD, D.py, PyData.eqv]
  | .tup xs, y, b, h => by
    cases y with
    | tup ys => simp only [D.py, PyData.eqv]; exact eqL_py xs ys (by simpa [eqD] using h)
    | _ => simp_all [eqD, D.py, PyData.eqv]
  | .lst xs, y, b, h => by
    cases y with
    | lst ys => simp only [D.py, PyData.eqv]; exact eqL_py xs ys (by simpa [eqD] using h)
    | _ => simp_all [eqD, D.py, PyData.eqv]
  | .con xs, y, b, h => by simp [eqD] at h
  | .scr xs, y, b, h => by simp [eqD] at h
  | .ptr xs, y, b, h => by simp [eqD] at h
theorem eqL_py : ∀ (xs ys : List D) {b : Bool}, eqL xs ys = some b → PyData.eqvAll (pyL xs) (pyL ys) = b
  | [], ys, b, h => by cases ys <;> simp_all [eqL, pyL, PyData.eqvAll]
  | x :: xs, [], b, h => by simp_all [eqL, pyL, PyData.eqvAll]
  | x :: xs, y :: ys, b, h => by
    simp only [eqL] at h
    split at h
    · rename_i b1 h1
      split at h
      · rename_i b2 h2
        cases h
        simp only [pyL, PyData.eqvAll, eqD_py x y h1, eqL_py xs ys h2]
      · cases h
    · cases h
end
theorem memD_py (x : D) : ∀ (ys : List D) {b : Bool}, memD x ys = some b → ((pyL ys).any fun z => PyData.eqv z x.py) = b
  | [], b, h => by simp_all [memD, pyL]
  | y :: ys, b, h => by
    simp only [memD] at h
    split at h
    · rename_i b1 h1
      split at h
      · rename_i b2 h2
        cases h
        simp only [pyL, List.any_cons, eqD_py y x h1, memD_py x ys h2]
      · cases h
    · cases h
/-- flat data -/
theorem Rep.flat {v : V} {d : D} (h : Rep K hid ρ H v d) (f : flatD d = true) : flatV v = true := by
  cases d <;> first | (cases h; rfl) | (simp [flatD] at f)
theorem flat_eq {v w : V} {d e : D} {b : Bool} (h : Rep K hid ρ H v d) (g : Rep K hid ρ H w e) (hf : flatD d = true) (gf : flatD e = true) (he : eqD d e = some b) : scal v w = true ∧ decide (v = w) = b := by
  cases d <;> first | (simp [flatD] at hf; done) | skip
  all_goals cases e <;> first | (simp [flatD] at gf; done) | skip
  all_goals cases h
  all_goals cases g
  all_goals first
    | (simp only [eqD, Option.some.injEq] at he; subst he; refine ⟨rfl, ?_⟩; first | rfl | (exact decide_eq_false (by intro z; cases z)) | exact dec_bl | exact dec_int | exact dec_str)
    | (simp [eqD] at he)
theorem flat_eqV {v w : V} {d e : D} {b : Bool} (h : Rep K hid ρ H v d) (g : Rep K hid ρ H w e) (hf : flatD d = true) (gf : flatD e = true) (he : eqD d e = some b) : eqV v w = b := by
  cases d <;> first | (simp [flatD] at hf; done) | skip
  all_goals cases e <;> first | (simp [flatD] at gf; done) | skip
  all_goals cases h
  all_goals cases g
  all_goals first
    | (simp only [eqD, Option.some.injEq] at he; subst he; rfl)
    | (simp [eqD] at he)
theorem flat_mem {v : V} {d : D} (h : Rep K hid ρ H v d) (hf : flatD d = true) : ∀ {vs : List V} {ds : List D} {b : Bool}, RepL K hid ρ H vs ds → ds.all flatD = true → memD d ds = some b → vs.all flatV = true ∧ inV v vs = b
  | _, _, b, .nil, _, e => by
    simp only [memD, Option.some.injEq] at e
    subst e
    exact ⟨rfl, rfl⟩
  | w :: vs, e :: ds, b, .cons r t, f, q => by
    simp only [List.all_cons, Bool.and_eq_true] at f
    simp only [memD] at q
    split at q
    · rename_i b1 h1
      split at q
      · rename_i b2 h2
        cases q
        obtain ⟨i1, i2⟩ := flat_mem h hf t f.2 h2
        refine ⟨by simp only [List.all_cons, r.flat f.1, i1, Bool.and_self], ?_⟩
        have i2' : (vs.any fun y => eqV y v) = b2 := i2
        show ((w :: vs).any fun y => eqV y v) = _
        rw [List.any_cons, i2', flat_eqV r h f.1 hf h1]
      · cases q
    · cases q
/-! dicts -/
theorem toKey_rep {v : V} {d : D} {k : Key} (h : Rep K hid ρ H v d) (e : toKey d = some k) : v = kV k := by
  cases d <;> simp [toKey] at e
  · cases h; subst e; rfl
  · cases h; subst e; rfl
theorem toKeys_rep : ∀ {vs : List V} {ds : List D} {k : List Key}, RepL K hid ρ H vs ds → toKeys ds = some k → vs = k.map kV
  | _, _, k, .nil, e => by simp [toKeys] at e; subst e; rfl
  | _, d :: ds, k, .cons h t, e => by
    simp only [toKeys] at e
    split at e
    · rename_i k1 k2 h1 h2
      cases e
      rw [List.map_cons, toKey_rep h h1, toKeys_rep t h2]
    · cases e
section
variable {κ : Type} [DecidableEq κ]
theorem kv_val {ks : List (κ × V)} {kvs : List (κ × D)} (h : RepKV K hid ρ H ks kvs) (k : κ) : (valV ks k = none ∧ valD kvs k = none) ∨ ∃ v d, valV ks k = some v ∧ valD kvs k = some d ∧ Rep K hid ρ H v d := by
  induction h with
  | nil => exact .inl ⟨rfl, rfl⟩
  | @cons p q l1 l2 hd t ih =>
    obtain ⟨e1, e2⟩ := hd
    by_cases hk : p.1 = k
    · have hq : q.1 = k := e1 ▸ hk
      exact .inr ⟨p.2, q.2, valV_pos hk, by simp [valD, List.find?_cons, hq], e2⟩
    · have hq : ¬ q.1 = k := e1 ▸ hk
      rw [valV_neg hk]
      have : valD (q :: l2) k = valD l2 k := by simp [valD, List.find?_cons, hq]
      rw [this]
      exact ih
theorem kv_any {ks : List (κ × V)} {kvs : List (κ × D)} (h : RepKV K hid ρ H ks kvs) (k : κ) : (ks.any fun kv => decide (kv.1 = k)) = kvs.any fun kv => decide (kv.1 = k) := by
  induction h with
  | nil => rfl
  | @cons p q l1 l2 hd t ih => rw [List.any_cons, List.any_cons, ih, hd.1]
theorem kv_snoc {ks : List (κ × V)} {kvs : List (κ × D)} {k : κ} {v : V} {d : D} (h : RepKV K hid ρ H ks kvs) (r : Rep K hid ρ H v d) : RepKV K hid ρ H (ks ++ [(k, v)]) (kvs ++ [(k, d)]) := Paired.snoc h ⟨rfl, r⟩
theorem kv_map {ks : List (κ × V)} {kvs : List (κ × D)} {k : κ} {v : V} {d : D} (h : RepKV K hid ρ H ks kvs) (r : Rep K hid ρ H v d) :
    RepKV K hid ρ H (ks.map fun kv => if kv.1 = k then (kv.1, v) else kv) (kvs.map fun kv => if kv.1 = k then (kv.1, d) else kv) := by
  induction h with
  | nil => exact .nil
  | @cons p q l1 l2 hd t ih =>
    refine .cons ?_ ih
    by_cases hk : p.1 = k
    · have hq : q.1 = k := hd.1 ▸ hk
      simp only [if_pos hk, if_pos hq]; exact ⟨hd.1, r⟩
    · have hq : ¬ q.1 = k := hd.1 ▸ hk
      simp only [if_neg hk, if_neg hq]; exact hd
theorem kv_put {ks : List (κ × V)} {kvs : List (κ × D)} {k : κ} {v : V} {d : D} (h : RepKV K hid ρ H ks kvs) (r : Rep K hid ρ H v d) : RepKV K hid ρ H (putK ks k v) (putD kvs k d) := by
  unfold putK putD
  rw [kv_any h k]
  split
  · exact kv_map h r
  · exact kv_snoc h r
theorem kv_len {ks : List (κ × V)} {kvs : List (κ × D)} (h : RepKV K hid ρ H ks kvs) : ks.length = kvs.length := Paired.length h
theorem putD_lt {kvs : List (κ × D)} {k : κ} {d : D} {n : Nat} (h : ∀ kv ∈ kvs, kv.2.lt n = true) (hd : d.lt n = true) : ∀ kv ∈ putD kvs k d, kv.2.lt n = true := by
  unfold putD
  split
  · intro kv hm
    obtain ⟨q, hq, rfl⟩ := List.mem_map.mp hm
    split
    · exact hd
    · exact h q hq
  · intro kv hm
    rcases List.mem_append.mp hm with q | q
    · exact h kv q
    · rw [List.mem_singleton.mp q]; exact hd
end
/-- a look-up -/
theorem dget_rep {x y : V} {dx dy : D} {o : Option D} (r : RelS K hid ρ H mg S) (hx : Rep K hid ρ H x dx) (hy : Rep K hid ρ H y dy) (e : dGet dx dy S = some o) :
    ∃ a ov, x = .ref a ∧ DGet H a y ov ∧ ((ov = none ∧ o = none) ∨ ∃ v d, ov = some v ∧ o = some d ∧ Rep K hid ρ H v d) := by
  unfold dGet at e
  split at e
  · rename_i n
    split at e
    · rename_i kvs q
      obtain ⟨k, hk, rfl⟩ := Option.map_eq_some_iff.mp e
      obtain ⟨a, ha, _, ks, h1, h2⟩ := r.at_ q (by simp)
      have := toKey_rep hy hk
      subst this
      refine ⟨a, valV ks k, hx.ptr_ref ha, .inl ⟨ks, k, .inl h1, rfl, rfl⟩, ?_⟩
      exact kv_val h2 k
    · rename_i kvs q
      obtain ⟨k, hk, rfl⟩ := Option.map_eq_some_iff.mp e
      obtain ⟨a, ha, _, ks, o, h1, h2⟩ := r.at_ q (by simp)
      have := toKey_rep hy hk
      subst this
      refine ⟨a, valV ks k, hx.ptr_ref ha, .inl ⟨ks, k, .inr ⟨o, h1⟩, rfl, rfl⟩, ?_⟩
      exact kv_val h2 k
    · rename_i kvs q
      split at e
      · rename_i ks'
        obtain ⟨k, hk, rfl⟩ := Option.map_eq_some_iff.mp e
        obtain ⟨a, ha, _, ks, h1, h2⟩ := r.at_ q (by simp)
        cases hy with
        | tup g1 g2 g3 g4 =>
          have := toKeys_rep g4 hk
          subst this
          refine ⟨a, valV ks k, hx.ptr_ref ha, .inr ⟨ks, k, _, .inl h1, rfl, g1, rfl⟩, ?_⟩
          exact kv_val h2 k
      · cases e
    · rename_i kvs q
      split at e
      · rename_i ks'
        obtain ⟨k, hk, rfl⟩ := Option.map_eq_some_iff.mp e
        obtain ⟨a, ha, _, ks, o, h1, h2⟩ := r.at_ q (by simp)
        cases hy with
        | tup g1 g2 g3 g4 =>
          have := toKeys_rep g4 hk
          subst this
          refine ⟨a, valV ks k, hx.ptr_ref ha, .inr ⟨ks, k, _, .inr ⟨o, h1⟩, rfl, g1, rfl⟩, ?_⟩
          exact kv_val h2 k
      · cases e
    · cases e
  · cases e
theorem rdc_sq {a : Addr} {xs : List V} (h : RdC K hid ρ H a xs) : SqL K H a xs := by
  rcases h with h | ⟨o, h, _⟩
  · rcases h with q | q
    · rcases q with q | ⟨_, q⟩ <;> cases q
    · exact .inr q
  · exact .inl (.inr ⟨o, h⟩)
/-- what is read by its items -/
theorem seq_rep {x : V} {d : D} {ds : List D} (r : RelS K hid ρ H mg S) (hx : Rep K hid ρ H x d) (e : seqOf d S = some ds) : ∃ a xs, x = .ref a ∧ (SqL K H a xs ∨ SqT K H a xs) ∧ RepL K hid ρ H xs ds := by
  unfold seqOf at e
  split at e
  · cases e
    cases hx with
    | lst h1 _ _ h4 => exact ⟨_, _, rfl, .inl (SqL.of h1), h4⟩
  · cases e
    cases hx with
    | tup h1 _ _ h4 => exact ⟨_, _, rfl, .inr (SqT.of h1), h4⟩
  · cases e
    cases hx with
    | con h1 h4 =>
      refine ⟨_, _, rfl, .inr ?_, h4⟩
      rcases h1 with q | q
      · rcases q with q | ⟨_, q⟩ <;> cases q
      · exact .inr q
  · cases e
    cases hx with
    | scr h1 h4 => exact ⟨_, _, rfl, .inl (rdc_sq h1), h4⟩
  · split at e
    · rename_i q
      cases e
      obtain ⟨a, ha, _, xs, h1, h2⟩ := r.at_ q (by simp)
      exact ⟨a, xs, hx.ptr_ref ha, .inl (SqL.of h1), h2⟩
    · rename_i q
      cases e
      obtain ⟨a, ha, _, xs, o, h1, h2⟩ := r.at_ q (by simp)
      exact ⟨a, xs, hx.ptr_ref ha, .inl (.inl (.inr ⟨o, h1⟩)), h2⟩
    · cases e
  · cases e
/-- .. a list -/
theorem lst_rep {x : V} {d : D} {ds : List D} (r : RelS K hid ρ H mg S) (hx : Rep K hid ρ H x d) (e : seqOf d S = some ds) (nt : ∀ es, d ≠ .tup es) (nc : ∀ es, d ≠ .con es) : ∃ a xs, x = .ref a ∧ SqL K H a xs ∧ RepL K hid ρ H xs ds := by
  unfold seqOf at e
  split at e
  · cases e
    cases hx with
    | lst h1 _ _ h4 => exact ⟨_, _, rfl, SqL.of h1, h4⟩
  · exact absurd rfl (nt _)
  · exact absurd rfl (nc _)
  · cases e
    cases hx with
    | scr h1 h4 => exact ⟨_, _, rfl, rdc_sq h1, h4⟩
  · split at e
    · rename_i q
      cases e
      obtain ⟨a, ha, _, xs, h1, h2⟩ := r.at_ q (by simp)
      exact ⟨a, xs, hx.ptr_ref ha, SqL.of h1, h2⟩
    · rename_i q
      cases e
      obtain ⟨a, ha, _, xs, o, h1, h2⟩ := r.at_ q (by simp)
      exact ⟨a, xs, hx.ptr_ref ha, .inl (.inr ⟨o, h1⟩), h2⟩
    · cases e
  · cases e
end
/-- two dicts, held against each other -/
theorem dict_hits {X : Cx} {pins : List (Addr × Obj)} {σ : L2.St} {s : Shared} {hid : List Addr} {ρ : Rho} {H : Hp} (I : Inv X pins σ H s) (hu : X.A.units + 65 < cLine) {kb : List (Key × V)} {vb : List (Key × Value)} (relb : KV kb vb) {kbD : List (Key × D)} (rb : RepKV X.K hid ρ H kb kbD) :
    ∀ {ka : List (Key × V)} {kaD : List (Key × D)} (_ : RepKV X.K hid ρ H ka kaD) {va : List (Key × Value)} {b : Bool}, KV ka va → eqKv kbD kaD = some b → PySem.W.KeqHits X.A.in1 s vb va b := by
  intro ka kaD ra
  induction ra with
  | nil =>
    intro va b rv h
    cases rv
    cases h
    exact .nil
  | @cons p q l1 l2 hd t ih =>
    intro va b rv h
    obtain ⟨k, d⟩ := q
    obtain ⟨k', v⟩ := p
    obtain ⟨e1, e2⟩ := hd
    dsimp only at e1 e2
    subst e1
    cases rv with
    | @cons _ q' _ vs' hq tv =>
      obtain ⟨k'', u⟩ := q'
      obtain ⟨g1, g2⟩ := hq
      dsimp only at g1 g2
      subst g1
      have rr := relb.val k'
      simp only [eqKv] at h
      rcases kv_val rb k' with ⟨h1, h2⟩ | ⟨v2, d2, h1, h2, h3⟩
      · rw [h1] at rr
        rw [h2] at h
        cases h
        cases hv : valueAt vb k' with
        | none => exact .miss hv
        | some y => rw [hv] at rr; cases rr
      · rw [h1] at rr
        rw [h2] at h
        dsimp only at h
        split at h
        · rename_i hf
          rw [Bool.and_eq_true] at hf
          split at h
          · rename_i b1 hb1
            split at h
            · rename_i b2 hb2
              cases h
              cases hv : valueAt vb k' with
              | none => rw [hv] at rr; cases rr
              | some y =>
                rw [hv] at rr
                have ry : RelV v2 y := by
                  first | exact rr | (cases rr; assumption)
                obtain ⟨as, r1⟩ := Dp.reads I d.py v u (Rep.dp d 50 e2 hf.1) g2
                obtain ⟨bs, r2⟩ := Dp.reads I d2.py v2 y (Rep.dp d2 50 h3 hf.2) ry
                have at_ := PySem.W.keq_at (A := X.A) r1 r2 (fit_shaped hf.1) (fit_shaped hf.2) (by show X.A.units + 1 + 64 < cLine; omega)
                rw [eqD_py _ _ hb1] at at_
                exact .hit hv at_ (ih tv hb2)
            · cases h
          · cases h
        · cases h
theorem dict_eq_two {X : Cx} {pins : List (Addr × Obj)} {σ : L2.St} {s : Shared} {hid : List Addr} {ρ : Rho} {H : Hp} {S : Store} {x y : V} {v u : Value} {n m : Nat} {ka kb : List (Key × D)} {bb : Bool} (I : Inv X pins σ H s) (hu : X.A.units + 65 < cLine) (r : RelS X.K hid ρ H X.mg S) (hx : Rep X.K hid ρ H x (.ptr n)) (hy : Rep X.K hid ρ H y (.ptr m)) (rx : RelV x v) (ry : RelV y u) (hka : S[n]? = some (.dK ka)) (hkb : S[m]? = some (.dK kb)) (h : (if ka.length = kb.length then eqKv kb ka else some false) = some bb) :
    ∃ a b va vb rr, v = .ref a ∧ u = .ref b ∧ (a == sysModules) = false ∧ (b == sysModules) = false ∧ s.heap.DictOf (mixKind X.prog X.w) a va ∧ s.heap.DictOf (mixKind X.prog X.w) b vb ∧ (va.length = vb.length → PySem.W.KeqHits X.A.in1 s vb va rr) ∧ (va.length == vb.length && rr) = bb := by
  obtain ⟨a, ha, _, ks, h1, h2⟩ := r.at_ hka (by simp)
  obtain ⟨b, hb, _, ks2, h3, h4⟩ := r.at_ hkb (by simp)
  have ex := hx.ptr_ref ha
  have ey := hy.ptr_ref hb
  subst ex ey
  cases rx
  cases ry
  obtain ⟨_, z1, va, k1, d1⟩ := dk_of I.hok h1
  obtain ⟨_, z2, vb, k2, d2⟩ := dk_of I.hok h3
  have l1 : va.length = ka.length := by rw [← kv_len h2, ← KV.length k1]
  have l2 : vb.length = kb.length := by rw [← kv_len h4, ← KV.length k2]
  split at h
  · rename_i hl
    refine ⟨a, b, va, vb, bb, rfl, rfl, z1, z2, d1, d2, fun _ => dict_hits I hu k2 h4 h2 k1 h, ?_⟩
    rw [l1, l2, hl]
    simp
  · rename_i hl
    cases h
    refine ⟨a, b, va, vb, false, rfl, rfl, z1, z2, d1, d2, fun z => absurd (by rw [← l1, ← l2]; exact z) hl, by simp⟩
theorem dict_eq_rep {X : Cx} {pins : List (Addr × Obj)} {σ : L2.St} {s : Shared} {hid : List Addr} {ρ : Rho} {H : Hp} {S : Store} {x y : V} {v u : Value} {n : Nat} {dy : D} {bb : Bool} (I : Inv X pins σ H s) (hu : X.A.units + 65 < cLine) (r : RelS X.K hid ρ H X.mg S) (hx : Rep X.K hid ρ H x (.ptr n)) (hy : Rep X.K hid ρ H y dy) (rx : RelV x v) (ry : RelV y u) (h : eqDict n dy S = some bb) :
    ∃ a b va vb rr, v = .ref a ∧ u = .ref b ∧ (a == sysModules) = false ∧ (b == sysModules) = false ∧ s.heap.DictOf (mixKind X.prog X.w) a va ∧ s.heap.DictOf (mixKind X.prog X.w) b vb ∧ (va.length = vb.length → PySem.W.KeqHits X.A.in1 s vb va rr) ∧ (va.length == vb.length && rr) = bb := by
  unfold eqDict at h
  cases dy with
  | ptr m =>
    dsimp only at h
    cases hka : S[n]? with
    | none => rw [hka] at h; cases h
    | some ca =>
      cases ca with
      | dK ka =>
        cases hkb : S[m]? with
        | none => rw [hka, hkb] at h; cases h
        | some cb =>
          cases cb with
          | dK kb =>
            rw [hka, hkb] at h
            dsimp only at h
            exact dict_eq_two I hu r hx hy rx ry hka hkb h
          | _ => rw [hka, hkb] at h; cases h
      | _ => rw [hka] at h; cases h
  | _ => cases h
section
variable {X : Cx} {W : WX} {σ : L2.St} {H : Hp} {c a b : CE} {e ea eb ec : PySem.Expr} {pos : Pos}
theorem opC (op : COp) (hu : X.A.units + 65 < cLine) : OpR X (compareOp (cmpOf op)) (rD X fun x y S => (cmpD op x y S).map .bl) := by
  intro pins s σ H x y v u Q I rx ry h
  obtain ⟨hid, ρ, S, dx, dy, d, r, hx, hy, hd, k⟩ := h
  obtain ⟨bb, hb, rfl⟩ := Option.map_eq_some_iff.mp hd
  have out : ∀ b' : Bool, b' = bb → Q (.bl b') H := fun b' e => by
    subst e; exact k ρ H _ Ext.refl r (.bl _)
  have twoI : ∀ o, (match dx with | .int i => (match dy with | .int j => cmpI o i j | _ => none) | _ => none) = some bb → ∃ i j, x = .int i ∧ y = .int j ∧ cmpI o i j = some bb := fun o h => by
    split at h
    · split at h
      · cases hx; cases hy
        exact ⟨_, _, rfl, rfl, h⟩
      · cases h
    · cases h
  cases op with
  | eq =>
    have hb : eqX dx dy S = some bb := hb
    unfold eqX at hb
    split at hb
    · obtain ⟨a, b, va, vb, rr, rfl, rfl, z1, z2, d1, d2, hh, e⟩ := dict_eq_rep I (by omega) r hx hy rx ry hb
      exact PySem.W.keq_eq z1 z2 d1 d2 (by omega) hh ⟨.bl _, H, I, rfl, out _ e⟩
    · unfold eqv at hb
      split at hb
      · rename_i hf
        rcases Bool.or_eq_true_iff.mp hf with hf | hf
        · rw [Bool.and_eq_true] at hf
          obtain ⟨h1, h2⟩ := flat_eq hx hy hf.1 hf.2 hb
          exact op_eq pins s σ H x y v u Q I rx ry ⟨h1, out _ h2⟩
        · rw [Bool.and_eq_true] at hf
          exact op_eqD (by omega) pins s σ H x y v u Q I rx ry ⟨_, _, Rep.dp _ 50 hx hf.1, Rep.dp _ 50 hy hf.2, fit_shaped hf.1, fit_shaped hf.2, out _ (eqD_py _ _ hb)⟩
      · cases hb
  | ne =>
    have hb : (eqX dx dy S).map (!·) = some bb := hb
    obtain ⟨b0, hb, h0⟩ := Option.map_eq_some_iff.mp hb
    unfold eqX at hb
    split at hb
    · obtain ⟨a, b, va, vb, rr, rfl, rfl, z1, z2, d1, d2, hh, e⟩ := dict_eq_rep I (by omega) r hx hy rx ry hb
      exact PySem.W.keq_ne z1 z2 d1 d2 (by omega) hh ⟨.bl _, H, I, rfl, out _ (by rw [e]; exact h0)⟩
    · unfold eqv at hb
      split at hb
      · rename_i hf
        rcases Bool.or_eq_true_iff.mp hf with hf | hf
        · rw [Bool.and_eq_true] at hf
          obtain ⟨h1, h2⟩ := flat_eq hx hy hf.1 hf.2 hb
          exact op_ne pins s σ H x y v u Q I rx ry ⟨h1, out _ (by rw [h2]; exact h0)⟩
        · rw [Bool.and_eq_true] at hf
          exact op_neD (by omega) pins s σ H x y v u Q I rx ry ⟨_, _, Rep.dp _ 50 hx hf.1, Rep.dp _ 50 hy hf.2, fit_shaped hf.1, fit_shaped hf.2, out _ (by rw [eqD_py _ _ hb]; exact h0)⟩
      · cases hb
  | lt =>
    obtain ⟨i, j, rfl, rfl, q⟩ := twoI .lt hb
    exact op_lt pins s σ H _ _ v u Q I rx ry ⟨i, j, rfl, rfl, out _ (by simpa [cmpI] using q)⟩
  | le =>
    obtain ⟨i, j, rfl, rfl, q⟩ := twoI .le hb
    exact op_le pins s σ H _ _ v u Q I rx ry ⟨i, j, rfl, rfl, out _ (by simpa [cmpI] using q)⟩
  | gt =>
    obtain ⟨i, j, rfl, rfl, q⟩ := twoI .gt hb
    exact op_gt pins s σ H _ _ v u Q I rx ry ⟨i, j, rfl, rfl, out _ (by simpa [cmpI] using q)⟩
  | ge =>
    obtain ⟨i, j, rfl, rfl, q⟩ := twoI .ge hb
    exact op_ge pins s σ H _ _ v u Q I rx ry ⟨i, j, rfl, rfl, out _ (by simpa [cmpI] using q)⟩
  | inn =>
    simp only [cmpD] at hb
    split at hb
    · obtain ⟨o, ho, h0⟩ := Option.map_eq_some_iff.mp hb
      obtain ⟨a, ov, rfl, g, q⟩ := dget_rep r hy hx ho
      cases ry
      have e : ov.isSome = bb := by
        rcases q with ⟨q1, q2⟩ | ⟨v, d, q1, q2, _⟩ <;> (rw [q1]; rw [q2] at h0; exact h0)
      exact d_in (by omega) I g rx fun s3 I3 => ⟨.bl ov.isSome, H, I3, rfl, out _ e⟩
    · split at hb
      · split at hb
        · cases hx; cases hy
          exact op_in_str pins s σ H _ _ v u Q I rx ry ⟨_, _, rfl, rfl, out _ (Option.some.inj hb)⟩
        · cases hb
      · split at hb
        · rename_i ds hs
          split at hb
          · rename_i hf
            obtain hf | ⟨hl, hf1, hf2⟩ := (by simpa using hf : ((flatD dx = true ∧ ∀ x ∈ ds, flatD x = true) ∨ (isLst dy = true ∧ dx.fit 50 = true ∧ fitL ds 50 = true)))
            · obtain ⟨a, xs, rfl, h1, h2⟩ := seq_rep r hy hs
              obtain ⟨m1, m2⟩ := flat_mem hx hf.1 h2 (List.all_eq_true.mpr hf.2) hb
              exact op_in_seq pins s σ H _ _ v u Q I rx ry ⟨a, xs, rfl, h1, hx.flat hf.1, m1, out _ (by simpa using m2)⟩
            · obtain ⟨a, xs, rfl, h1, h2⟩ := lst_rep r hy hs (fun es z => by subst z; cases hl) (fun es z => by subst z; cases hl)
              exact op_inD hu pins s σ H _ _ v u Q I rx ry ⟨_, _, Rep.dp _ 50 hx hf1, .lst h1 (RepL.dp _ 50 h2 hf2), fit_shaped hf1, fitL_shaped hf2, out _ (memD_py _ _ hb)⟩
          · cases hb
        · cases hb
  | notin =>
    simp only [cmpD] at hb
    split at hb
    · obtain ⟨o, ho, h0⟩ := Option.map_eq_some_iff.mp hb
      obtain ⟨a, ov, rfl, g, q⟩ := dget_rep r hy hx ho
      cases ry
      have e : (!ov.isSome) = bb := by
        rcases q with ⟨q1, q2⟩ | ⟨v, d, q1, q2, _⟩ <;> (rw [q1]; rw [q2] at h0; exact h0)
      exact d_notIn (by omega) I g rx fun s3 I3 => ⟨.bl (!ov.isSome), H, I3, rfl, out _ e⟩
    · split at hb
      · split at hb
        · cases hx; cases hy
          exact op_notIn_str pins s σ H _ _ v u Q I rx ry ⟨_, _, rfl, rfl, out _ (Option.some.inj hb)⟩
        · cases hb
      · split at hb
        · rename_i ds hs
          split at hb
          · rename_i hf
            obtain ⟨b0, hb, h0⟩ := Option.map_eq_some_iff.mp hb
            obtain hf | ⟨hl, hf1, hf2⟩ := (by simpa using hf : ((flatD dx = true ∧ ∀ x ∈ ds, flatD x = true) ∨ (isLst dy = true ∧ dx.fit 50 = true ∧ fitL ds 50 = true)))
            · obtain ⟨a, xs, rfl, h1, h2⟩ := seq_rep r hy hs
              obtain ⟨m1, m2⟩ := flat_mem hx hf.1 h2 (List.all_eq_true.mpr hf.2) hb
              exact op_notIn_seq pins s σ H _ _ v u Q I rx ry ⟨a, xs, rfl, h1, hx.flat hf.1, m1, out _ (by rw [m2]; exact h0)⟩
            · obtain ⟨a, xs, rfl, h1, h2⟩ := lst_rep r hy hs (fun es z => by subst z; cases hl) (fun es z => by subst z; cases hl)
              exact op_notInD hu pins s σ H _ _ v u Q I rx ry ⟨_, _, Rep.dp _ 50 hx hf1, .lst h1 (RepL.dp _ 50 h2 hf2), fit_shaped hf1, fitL_shaped hf2, out _ (by rw [memD_py _ _ hb]; exact h0)⟩
          · cases hb
        · cases hb
theorem go_cmp {op : COp} {Q : VK} (h : tE X W (.cmp op a b) σ H Q) : tOp (rD X fun x y S => (cmpD op x y S).map .bl) (tE X W a) (tE X W b) σ H Q := go_op (f := fun x y S => (cmpD op x y S).map .bl) h
theorem behind_not {env : Env} {e : PySem.Expr} (h : ∀ es k p, e ≠ .Set es k p) (op : CmpOp) : behindInMarks op e = false := by
  cases e <;> first | rfl | exact absurd rfl (h _ _ _)
theorem s_cmp {op : COp} (hu : X.A.units + 65 < cLine) (ha : PE X ea (tE X W a)) (hb : PE X eb (tE X W b)) (hm : behindInMarks (cmpOf op) eb = false) : PE X (.Compare ea [cmpOf op] [eb] pos) (tE X W (.cmp op a b)) :=
  PE.imp (pe_cmpR (opC op hu) ha hb hm) fun σ H Q h => go_cmp h
/-- a test, from the value's reading -/
theorem tt_of {Q : Bool → Hp → Prop} (h : tT X W c σ H Q) : tE X W c σ H fun v H' => ∃ k, v = .bl k ∧ Q k H' := by
  obtain ⟨hid, ρ, env, S, r, re, p⟩ := h
  refine ⟨hid, ρ, env, S, r, re, p.mono fun ρ1 H1 d S1 e1 r1 q v rv => ?_⟩
  obtain ⟨k, rfl, q⟩ := q
  cases rv
  exact ⟨k, rfl, q⟩
theorem t_cmp {op : COp} (hu : X.A.units + 65 < cLine) (ha : PE X ea (tE X W a)) (hb : PE X eb (tE X W b)) (hm : behindInMarks (cmpOf op) eb = false) : PT X (.Compare ea [cmpOf op] [eb] pos) (tT X W (.cmp op a b)) :=
  PT.imp (pt_cmpR (opC op hu) ha hb hm) fun σ H Q h => go_cmp (tt_of h)
theorem t_val (he : PE X e (tE X W c)) (h : ∀ whole, isTrue e X.env whole = (do let v ← whole; standAt e.pos; holding [v] (truthy v))) : PT X e (tT X W c) :=
  PT.imp (pt_val he h) fun σ H Q h => tt_of h
end
end MI
namespace MI
open PySem PySem.Spec L2
/-! ### argument lists -/
def isStar : PySem.Expr → Bool
  | .Starred _ _ => true
  | _ => false
theorem star_cons {e : PySem.Expr} (h : isStar e = false) (es : List PySem.Expr) (env : Env) : starEach (e :: es) env = (false, eval e env) :: starEach es env := by
  cases e <;> first | rfl | cases h
theorem star_none : ∀ {es : List PySem.Expr} (env : Env), (es.all fun e => !isStar e) = true → (starEach es env).any (·.1) = false
  | [], _, _ => rfl
  | e :: es, env, h => by
    have h' : isStar e = false ∧ (es.all fun e => !isStar e) = true := by simpa using h
    rw [star_cons h'.1, List.any_cons, star_none env h'.2]
    rfl
theorem back_none {l : List (Bool × Sem Value)} (pos : Pos) (h : l.any (·.1) = false) : (backTo pos l).any (·.1) = false := by
  unfold backTo
  rw [List.any_map]
  exact h
section
variable {X : Cx} {W : WX} {σ : L2.St} {H : Hp} {c a b : CE} {cs : CEs} {e ea eb ec : PySem.Expr} {es : List PySem.Expr} {pos : Pos}
theorem s_anil : PA X [] (tA X W .nil) := PA.imp pa_nil fun σ H Q h => by
  obtain ⟨hid, ρ, env, S, r, re, p⟩ := h
  exact p.here (S := S) r [] .nil
theorem s_acons (ha : PE X e (tE X W c)) (hr : PA X es (tA X W cs)) (hs : isStar e = false) : PA X (e :: es) (tA X W (.cons c cs)) := by
  refine PA.imp (pa_cons ha hr (star_cons hs _ _)) fun σ H Q h => ?_
  have h' : Go X W σ H (fun env S => (ev c env S).bind fun x S => (evs cs env S).bind fun xs S => Rs.ok (x :: xs) S) (fun hid ρ H' ds _ => ∀ vs, RepL X.K hid ρ H' vs ds → Q vs H') := h
  refine h'.bind fun hid ρ1 H1 x S1 env r1 e1 p1 v rv => ?_
  refine ⟨hid, ρ1, env, S1, r1, e1, p1.bind fun ρ2 H2 xs S2 ex r2 p2 vs rl => ?_⟩
  exact p2.here r2 _ (.cons (rv.mono ex) rl)
/-- so many items -/
def CEs.len : CEs → Nat
  | .nil => 0
  | .cons _ es => es.len + 1
theorem evs_len : ∀ (cs : CEs) {env : MEnv} {S S' : Store} {ds : List D}, evs cs env S = .ok ds S' → ds.length = cs.len
  | .nil, env, S, S', ds, h => by
    have h' : Rs.ok [] S = Rs.ok ds S' := h
    cases h'; rfl
  | .cons c cs, env, S, S', ds, h => by
    have h' : ((ev c env S).bind fun x S => (evs cs env S).bind fun xs S => Rs.ok (x :: xs) S) = .ok ds S' := h
    cases q : ev c env S with
    | ok x S1 =>
      rw [q] at h'
      have h2 : ((evs cs env S1).bind fun xs S => Rs.ok (x :: xs) S) = .ok ds S' := h'
      cases q2 : evs cs env S1 with
      | ok xs S2 =>
        rw [q2] at h2
        have h3 : Rs.ok (x :: xs) S2 = Rs.ok ds S' := h2
        cases h3
        rw [List.length_cons, evs_len cs q2]; rfl
      | ex _ _ _ => rw [q2] at h2; cases h2
      | stuck => rw [q2] at h2; cases h2
    | ex _ _ _ => rw [q] at h'; cases h'
    | stuck => rw [q] at h'; cases h'
/-- the items of a display, with their number -/
theorem args_len {Q : List V → Hp → Prop} (hl : cs.len ≤ 1000000) (h : Go X W σ H (evs cs) fun hid ρ H' ds S => ds.length ≤ 1000000 → ∀ vs, RepL X.K hid ρ H' vs ds → Q vs H') : tA X W cs σ H Q := by
  obtain ⟨hid, ρ, env, S, r, re, p⟩ := h
  refine ⟨hid, ρ, env, S, r, re, ?_⟩
  cases q : evs cs env S with
  | ok ds S' =>
    rw [q] at p
    exact fun ρ' H' e' r' => p ρ' H' e' r' (by rw [evs_len cs q]; exact hl)
  | ex _ _ _ => rw [q] at p; exact p
  | stuck => rw [q] at p; exact p
theorem s_tup {k : Nat} (hl : cs.len ≤ 1000000) (ha : PA X es (tA X W cs)) : PE X (.Tuple es k pos) (tE X W (.tup cs)) := by
  refine PE.imp (pe_tup ha) fun σ H Q h => ?_
  have h' : Go X W σ H (fun env S => (evs cs env S).bind fun ds S => Rs.ok (D.tup ds) S) (fun hid ρ H' d _ => ∀ v, Rep X.K hid ρ H' v d → Q v H') := h
  refine args_len hl (h'.bind fun hid ρ1 H1 ds S1 env r1 e1 p1 hz vs rl => ?_)
  refine ⟨le_line (by rw [rl.length]; exact hz), fun p hp => ?_⟩
  obtain ⟨q1, q2, q3⟩ := new_tup r1 rl hp
  exact p1 _ _ q1 q2 _ q3
theorem s_disp (hl : cs.len ≤ 1000000) (ha : PA X es (tA X W cs)) : PE X (.List es pos) (tL X W (.disp cs)) := by
  refine PE.imp (pe_lst ha) fun σ H Q h => ?_
  have h' : Go X W σ H (fun env S => evs cs env S) (fun hid ρ H' ds _ => ∀ xs p, RepL X.K hid ρ H' xs ds → H' p = none → Q (.ref p) (upd H' p (.lst xs))) := h
  refine args_len hl ?_
  obtain ⟨hid, ρ, env, S, r, re, p⟩ := h'
  refine ⟨hid, ρ, env, S, r, re, p.mono fun ρ1 H1 ds S1 e1 r1 q hz vs rl => ?_⟩
  exact ⟨le_line (by rw [rl.length]; exact hz), fun p hp => q vs p rl hp⟩
theorem s_new {m : Bool} {l : CL} (h : PE X e (tL X W l)) : PE X e (tE X W (.new m l)) := by
  refine PE.imp h fun σ H Q hq => ?_
  have h' : Go X W σ H (fun env S => (evL l env S).bind fun ds S => newL m ds S) (fun hid ρ H' d _ => ∀ v, Rep X.K hid ρ H' v d → Q v H') := hq
  refine h'.bind fun hid ρ1 H1 ds S1 env r1 e1 p1 xs p rl hp => ?_
  cases m with
  | false =>
    obtain ⟨q1, q2, q3⟩ := new_lst r1 rl hp
    have p1' : Post X.K X.mg hid ρ1 H1 (Rs.ok (D.lst ds) S1) (fun ρ H' d _ => ∀ v, Rep X.K hid ρ H' v d → Q v H') (fun cls d H' => W cls d σ H') := p1
    exact p1' _ _ q1 q2 _ q3
  | true =>
    have p1' : Post X.K X.mg hid ρ1 H1 (if ltL ds S1.length then Rs.ok (D.ptr S1.length) (S1 ++ [.lst ds]) else Rs.stuck) (fun ρ H' d _ => ∀ v, Rep X.K hid ρ H' v d → Q v H') (fun cls d H' => W cls d σ H') := p1
    split at p1'
    · rename_i hl
      have ex := r1.ext_push (o := HO.lst xs) hp
      obtain ⟨q1, q2⟩ := r1.push (o := HO.lst xs) (c := .lst ds) hp ⟨hl, xs, upd_same, rl.mono ex⟩
      refine p1' _ _ q1 q2 _ (.ptr ?_ fun a ha => ?_)
      · rw [List.length_append, r1.len]; exact Nat.lt_succ_self _
      · rw [← r1.len] at ha
        simp at ha
        rw [ha]
    · exact p1'.elim
theorem s_dnew : PE X (.Dict [] [] pos) (tE X W (.dnew false)) := by
  refine PE.imp pe_dnewK fun σ H Q h p hp => ?_
  obtain ⟨hid, ρ, env, S, r, re, q⟩ := h
  have q' : Post X.K X.mg hid ρ H (Rs.ok (D.ptr S.length) (S ++ [Cell.dK []])) (fun ρ H' d _ => ∀ v, Rep X.K hid ρ H' v d → Q v H') (fun cls d H' => W cls d σ H') := q
  obtain ⟨q1, q2⟩ := r.push (o := HO.dK []) (c := .dK []) hp ⟨fun _ z => by simp at z, [], upd_same, .nil⟩
  refine q' _ _ q1 q2 _ (.ptr ?_ fun a ha => ?_)
  · rw [List.length_append, r.len]; exact Nat.lt_succ_self _
  · rw [← r.len] at ha
    simp at ha
    rw [ha]
theorem s_dnewT : PE X (.Dict [] [] pos) (tE X W (.dnew true)) := by
  refine PE.imp pe_dnewT fun σ H Q h p hp => ?_
  obtain ⟨hid, ρ, env, S, r, re, q⟩ := h
  have q' : Post X.K X.mg hid ρ H (Rs.ok (D.ptr S.length) (S ++ [Cell.dT []])) (fun ρ H' d _ => ∀ v, Rep X.K hid ρ H' v d → Q v H') (fun cls d H' => W cls d σ H') := q
  obtain ⟨q1, q2⟩ := r.push (o := HO.dT []) (c := .dT []) hp ⟨fun _ z => by simp at z, [], upd_same, .nil⟩
  refine q' _ _ q1 q2 _ (.ptr ?_ fun a ha => ?_)
  · rw [List.length_append, r.len]; exact Nat.lt_succ_self _
  · rw [← r.len] at ha
    simp at ha
    rw [ha]
/-! ### truth -/
theorem s_not (ha : PE X ea (tE X W a)) : PE X (.UnaryOp .Not ea pos) (tE X W (.not a)) := by
  refine PE.imp (pe_not ha) fun σ H Q h => ?_
  have h' : Go X W σ H (fun env S => (ev a env S).bind fun x S => (match x with | D.bl b => Rs.ok (D.bl (!b)) S | _ => Rs.stuck)) (fun hid ρ H' d _ => ∀ v, Rep X.K hid ρ H' v d → Q v H') := h
  refine h'.bind fun hid ρ1 H1 x S1 env r1 e1 p1 v rv => ?_
  split at p1
  · cases rv
    exact ⟨_, rfl, p1.here r1 _ (.bl _)⟩
  · exact p1.elim
theorem t_not (ha : PT X ea (tT X W a)) : PT X (.UnaryOp .Not ea pos) (tT X W (.not a)) := by
  refine PT.imp (pt_not ha) fun σ H Q h => ?_
  have h' : Go X W σ H (fun env S => (ev a env S).bind fun x S => (match x with | D.bl b => Rs.ok (D.bl (!b)) S | _ => Rs.stuck)) (fun _ _ H' d _ => ∃ b, d = D.bl b ∧ Q b H') := h
  refine h'.bind fun hid ρ1 H1 x S1 env r1 e1 p1 => ?_
  split at p1
  · rename_i b
    obtain ⟨b', e, q⟩ := p1.here r1
    cases e
    exact ⟨b, rfl, q⟩
  · exact p1.elim
theorem isNon_rep {hid : List Addr} {ρ : Rho} {S : Store} {v : V} {d : D} {b : Bool} (r : RelS X.K hid ρ H X.mg S) (h : Rep X.K hid ρ H v d) (e : isNon d S = some b) : decide (v = .non) = b := by
  unfold isNon at e
  split at e
  · cases h; cases e; rfl
  · rename_i n
    split at e
    · cases e
    · rename_i c hc q
      cases e
      obtain ⟨a, ha, _⟩ := r.at_ q hc
      rw [h.ptr_ref ha]; rfl
    · cases e
  · rename_i h1 h2
    cases e
    cases d <;> first | (cases h; rfl) | exact absurd rfl (h1) | exact absurd rfl (h2 _)
theorem s_isN {j : Nat} {pos' : Pos} (ha : PE X ea (tE X W a)) : PE X (.Compare ea [.Is] [.Constant .none j pos'] pos) (tE X W (.isN a)) := by
  refine PE.imp (pe_cmp (pc_isN ha) rfl) fun σ H Q h => ?_
  have h' : Go X W σ H (fun env S => (ev a env S).bind fun x S => Rs.of ((isNon x S).map D.bl) S) (fun hid ρ H' d _ => ∀ v, Rep X.K hid ρ H' v d → Q v H') := h
  refine h'.bind fun hid ρ1 H1 x S1 env r1 e1 p1 v rv => ?_
  obtain ⟨d, hd, k⟩ := p1.of
  obtain ⟨b, hb, rfl⟩ := Option.map_eq_some_iff.mp hd
  rw [isNon_rep r1 rv hb]
  exact k _ _ Ext.refl r1 _ (.bl _)
theorem s_notN {j : Nat} {pos' : Pos} (ha : PE X ea (tE X W a)) : PE X (.Compare ea [.IsNot] [.Constant .none j pos'] pos) (tE X W (.notN a)) := by
  refine PE.imp (pe_cmp (pc_notN ha) rfl) fun σ H Q h => ?_
  have h' : Go X W σ H (fun env S => (ev a env S).bind fun x S => Rs.of ((isNon x S).map fun b => D.bl (!b)) S) (fun hid ρ H' d _ => ∀ v, Rep X.K hid ρ H' v d → Q v H') := h
  refine h'.bind fun hid ρ1 H1 x S1 env r1 e1 p1 v rv => ?_
  obtain ⟨d, hd, k⟩ := p1.of
  obtain ⟨b, hb, rfl⟩ := Option.map_eq_some_iff.mp hd
  rw [isNon_rep r1 rv hb]
  exact k _ _ Ext.refl r1 _ (.bl _)
theorem t_isN {j : Nat} {pos' : Pos} (ha : PE X ea (tE X W a)) : PT X (.Compare ea [.Is] [.Constant .none j pos'] pos) (tT X W (.isN a)) := by
  refine PT.imp (pt_cmp (pc_isN ha) rfl) fun σ H Q h => ?_
  have h' : Go X W σ H (fun env S => (ev a env S).bind fun x S => Rs.of ((isNon x S).map D.bl) S) (fun _ _ H' d _ => ∃ b, d = D.bl b ∧ Q b H') := h
  refine h'.bind fun hid ρ1 H1 x S1 env r1 e1 p1 v rv => ?_
  obtain ⟨d, hd, k⟩ := p1.of
  obtain ⟨b, hb, rfl⟩ := Option.map_eq_some_iff.mp hd
  rw [isNon_rep r1 rv hb]
  obtain ⟨b', e, q⟩ := k _ _ Ext.refl r1
  cases e
  exact ⟨b, rfl, q⟩
theorem t_notN {j : Nat} {pos' : Pos} (ha : PE X ea (tE X W a)) : PT X (.Compare ea [.IsNot] [.Constant .none j pos'] pos) (tT X W (.notN a)) := by
  refine PT.imp (pt_cmp (pc_notN ha) rfl) fun σ H Q h => ?_
  have h' : Go X W σ H (fun env S => (ev a env S).bind fun x S => Rs.of ((isNon x S).map fun b => D.bl (!b)) S) (fun _ _ H' d _ => ∃ b, d = D.bl b ∧ Q b H') := h
  refine h'.bind fun hid ρ1 H1 x S1 env r1 e1 p1 v rv => ?_
  obtain ⟨d, hd, k⟩ := p1.of
  obtain ⟨b, hb, rfl⟩ := Option.map_eq_some_iff.mp hd
  rw [isNon_rep r1 rv hb]
  obtain ⟨b', e, q⟩ := k _ _ Ext.refl r1
  cases e
  exact ⟨!b, rfl, q⟩
/-- and, or: a row of parts -/
def tAndS (X : Cx) (W : WX) (cs : CEs) : TE := fun σ H Q => Go X W σ H (evAnd cs) fun hid ρ H' d _ => ∀ v, Rep X.K hid ρ H' v d → Q v H'
def tOrS (X : Cx) (W : WX) (cs : CEs) : TE := fun σ H Q => Go X W σ H (evOr cs) fun hid ρ H' d _ => ∀ v, Rep X.K hid ρ H' v d → Q v H'
def tAndT (X : Cx) (W : WX) (cs : CEs) : TT := fun σ H Q => Go X W σ H (evAnd cs) fun _ _ H' d _ => ∃ b, d = .bl b ∧ Q b H'
def tOrT (X : Cx) (W : WX) (cs : CEs) : TT := fun σ H Q => Go X W σ H (evOr cs) fun _ _ H' d _ => ∃ b, d = .bl b ∧ Q b H'
theorem s_and1 (ha : PE X e (tE X W c)) : PE X (.BoolOp .And [e] pos) (tAndS X W (.cons c .nil)) := by
  refine PE.imp (pe_one ha) fun σ H Q h => ?_
  have h' : Go X W σ H (fun env S => (ev c env S).bind fun x S => (match x with | D.bl b => Rs.ok (D.bl b) S | _ => Rs.stuck)) (fun hid ρ H' d _ => ∀ v, Rep X.K hid ρ H' v d → Q v H') := h
  refine h'.bind fun hid ρ1 H1 x S1 env r1 e1 p1 v rv => ?_
  split at p1
  · exact p1.here r1 v rv
  · exact p1.elim
theorem s_or1 (ha : PE X e (tE X W c)) : PE X (.BoolOp .Or [e] pos) (tOrS X W (.cons c .nil)) := by
  refine PE.imp (pe_one ha) fun σ H Q h => ?_
  have h' : Go X W σ H (fun env S => (ev c env S).bind fun x S => (match x with | D.bl b => Rs.ok (D.bl b) S | _ => Rs.stuck)) (fun hid ρ H' d _ => ∀ v, Rep X.K hid ρ H' v d → Q v H') := h
  refine h'.bind fun hid ρ1 H1 x S1 env r1 e1 p1 v rv => ?_
  split at p1
  · exact p1.here r1 v rv
  · exact p1.elim
theorem s_andc {c2 : CE} {e2 : PySem.Expr} (ha : PE X e (tE X W c)) (hb : PE X (.BoolOp .And (e2 :: es) pos) (tAndS X W (.cons c2 cs))) : PE X (.BoolOp .And (e :: e2 :: es) pos) (tAndS X W (.cons c (.cons c2 cs))) := by
  refine PE.imp (pe_and ha hb) fun σ H Q h => ?_
  have h' : Go X W σ H (fun env S => (ev c env S).bind fun x S => (match x with | D.bl true => evAnd (.cons c2 cs) env S | D.bl false => Rs.ok (D.bl false) S | _ => Rs.stuck)) (fun hid ρ H' d _ => ∀ v, Rep X.K hid ρ H' v d → Q v H') := h
  refine h'.bind fun hid ρ1 H1 x S1 env r1 e1 p1 v rv => ?_
  split at p1
  · cases rv
    exact ⟨true, rfl, hid, ρ1, env, S1, r1, e1, p1⟩
  · cases rv
    exact ⟨false, rfl, p1.here r1 _ (.bl _)⟩
  · exact p1.elim
theorem s_orc {c2 : CE} {e2 : PySem.Expr} (ha : PE X e (tE X W c)) (hb : PE X (.BoolOp .Or (e2 :: es) pos) (tOrS X W (.cons c2 cs))) : PE X (.BoolOp .Or (e :: e2 :: es) pos) (tOrS X W (.cons c (.cons c2 cs))) := by
  refine PE.imp (pe_or ha hb) fun σ H Q h => ?_
  have h' : Go X W σ H (fun env S => (ev c env S).bind fun x S => (match x with | D.bl false => evOr (.cons c2 cs) env S | D.bl true => Rs.ok (D.bl true) S | _ => Rs.stuck)) (fun hid ρ H' d _ => ∀ v, Rep X.K hid ρ H' v d → Q v H') := h
  refine h'.bind fun hid ρ1 H1 x S1 env r1 e1 p1 v rv => ?_
  split at p1
  · cases rv
    exact ⟨false, rfl, hid, ρ1, env, S1, r1, e1, p1⟩
  · cases rv
    exact ⟨true, rfl, p1.here r1 _ (.bl _)⟩
  · exact p1.elim
theorem t_and1 (ha : PT X e (tT X W c)) : PW X (.BoolOp .And [e] pos) (tAndT X W (.cons c .nil)) := by
  have h0 : PT X e (tAndT X W (.cons c .nil)) := PT.imp ha fun σ H Q h => by
    have h' : Go X W σ H (fun env S => (ev c env S).bind fun x S => (match x with | D.bl b => Rs.ok (D.bl b) S | _ => Rs.stuck)) (fun _ _ H' d _ => ∃ b, d = D.bl b ∧ Q b H') := h
    refine h'.bind fun hid ρ1 H1 x S1 env r1 e1 p1 => ?_
    split at p1
    · exact p1.here r1
    · exact p1.elim
  exact pw_and1 h0
theorem t_or1 (ha : PT X e (tT X W c)) : PW X (.BoolOp .Or [e] pos) (tOrT X W (.cons c .nil)) := by
  have h0 : PT X e (tOrT X W (.cons c .nil)) := PT.imp ha fun σ H Q h => by
    have h' : Go X W σ H (fun env S => (ev c env S).bind fun x S => (match x with | D.bl b => Rs.ok (D.bl b) S | _ => Rs.stuck)) (fun _ _ H' d _ => ∃ b, d = D.bl b ∧ Q b H') := h
    refine h'.bind fun hid ρ1 H1 x S1 env r1 e1 p1 => ?_
    split at p1
    · exact p1.here r1
    · exact p1.elim
  exact pw_or1 h0
theorem PW.imp {e : PySem.Expr} {t t' : TT} (h : PW X e t) (w : ∀ σ H Q, t' σ H Q → t σ H Q) : PW X e t' := ⟨fun wh pins s σ H Q I hw => h.run wh pins s σ H Q I (w σ H Q hw)⟩
theorem t_andc {c2 : CE} {e2 : PySem.Expr} (ha : PT X e (tT X W c)) (hb : PW X (.BoolOp .And (e2 :: es) pos) (tAndT X W (.cons c2 cs))) : PW X (.BoolOp .And (e :: e2 :: es) pos) (tAndT X W (.cons c (.cons c2 cs))) := by
  refine PW.imp (pw_and ha hb) fun σ H Q h => ?_
  have h' : Go X W σ H (fun env S => (ev c env S).bind fun x S => (match x with | D.bl true => evAnd (.cons c2 cs) env S | D.bl false => Rs.ok (D.bl false) S | _ => Rs.stuck)) (fun _ _ H' d _ => ∃ b, d = D.bl b ∧ Q b H') := h
  refine h'.bind fun hid ρ1 H1 x S1 env r1 e1 p1 => ?_
  split at p1
  · exact ⟨true, rfl, hid, ρ1, env, S1, r1, e1, p1⟩
  · obtain ⟨b, e, q⟩ := p1.here r1
    cases e
    exact ⟨false, rfl, q⟩
  · exact p1.elim
theorem t_orc {c2 : CE} {e2 : PySem.Expr} (ha : PT X e (tT X W c)) (hb : PW X (.BoolOp .Or (e2 :: es) pos) (tOrT X W (.cons c2 cs))) : PW X (.BoolOp .Or (e :: e2 :: es) pos) (tOrT X W (.cons c (.cons c2 cs))) := by
  refine PW.imp (pw_or ha hb) fun σ H Q h => ?_
  have h' : Go X W σ H (fun env S => (ev c env S).bind fun x S => (match x with | D.bl false => evOr (.cons c2 cs) env S | D.bl true => Rs.ok (D.bl true) S | _ => Rs.stuck)) (fun _ _ H' d _ => ∃ b, d = D.bl b ∧ Q b H') := h
  refine h'.bind fun hid ρ1 H1 x S1 env r1 e1 p1 => ?_
  split at p1
  · exact ⟨false, rfl, hid, ρ1, env, S1, r1, e1, p1⟩
  · obtain ⟨b, e, q⟩ := p1.here r1
    cases e
    exact ⟨true, rfl, q⟩
  · exact p1.elim
theorem s_ite (hc : PT X ec (tT X W c)) (ha : PE X ea (tE X W a)) (hb : PE X eb (tE X W b)) : PE X (.IfExp ec ea eb pos) (tE X W (.ite c a b)) := by
  refine PE.imp (pe_ifExp hc ha hb) fun σ H Q h => ?_
  have h' : Go X W σ H (fun env S => (ev c env S).bind fun x S => (match x with | D.bl true => ev a env S | D.bl false => ev b env S | _ => Rs.stuck)) (fun hid ρ H' d _ => ∀ v, Rep X.K hid ρ H' v d → Q v H') := h
  refine h'.bind fun hid ρ1 H1 x S1 env r1 e1 p1 => ?_
  split at p1
  · exact ⟨true, rfl, hid, ρ1, env, S1, r1, e1, p1⟩
  · exact ⟨false, rfl, hid, ρ1, env, S1, r1, e1, p1⟩
  · exact p1.elim
/-! ### a op b op c -/
theorem last_none {op op' : CmpOp} {eb ec : PySem.Expr} (h : behindInMarks op' ec = false) : lastMarks [op, op'] [eb, ec] = false := h
theorem go_chain {op op' : COp} {R : List Addr → Rho → Hp → D → Store → Prop} {Q : VK} (hR : ∀ hid ρ H' d S', R hid ρ H' d S' → ∀ v, Rep X.K hid ρ H' v d → Q v H') (h : Go X W σ H (ev (.chain op op' a b c)) R) :
    tChain (rD X fun x y S => (cmpD op x y S).map .bl) (rD X fun x y S => (cmpD op' x y S).map .bl) (tE X W a) (tE X W b) (tE X W c) σ H Q := by
  have h' : Go X W σ H (fun env S => (ev a env S).bind fun x S => (ev b env S).bind fun y S => (match cmpD op x y S with
    | some true => (ev c env S).bind fun z S => Rs.of ((cmpD op' y z S).map .bl) S
    | some false => Rs.ok (D.bl false) S
    | none => Rs.stuck)) R := h
  refine h'.bind fun hid ρ1 H1 dx S1 env r1 e1 p1 x rx => ?_
  refine ⟨hid, ρ1, env, S1, r1, e1, p1.bind fun ρ2 H2 dy S2 ex r2 p2 y ry => ?_⟩
  split at p2
  · rename_i q
    refine ⟨hid, ρ2, S2, dx, dy, .bl true, r2, rx.mono ex, ry, by show Option.map D.bl (cmpD op dx dy S2) = _; rw [q]; rfl, fun ρ3 H3 v ex3 r3 rv => ?_⟩
    cases rv
    refine ⟨true, rfl, ?_⟩
    rw [if_pos rfl]
    refine ⟨hid, ρ3, env, S2, r3, (e1.mono ex).mono ex3, (p2.ext ex3).bind fun ρ4 H4 dz S4 ex4 r4 p4 z rz => ?_⟩
    obtain ⟨d, hd, k⟩ := p4.of
    exact ⟨hid, ρ4, S4, dy, dz, d, r4, (ry.mono ex3).mono ex4, rz, hd, fun ρ' H' v e' r' rv => hR _ _ _ _ _ (k ρ' H' e' r') v rv⟩
  · rename_i q
    refine ⟨hid, ρ2, S2, dx, dy, .bl false, r2, rx.mono ex, ry, by show Option.map D.bl (cmpD op dx dy S2) = _; rw [q]; rfl, fun ρ3 H3 v ex3 r3 rv => ?_⟩
    cases rv
    refine ⟨false, rfl, ?_⟩
    rw [if_neg Bool.false_ne_true]
    exact hR _ _ _ _ _ ((p2.ext ex3).here r3) _ (.bl _)
  · exact p2.elim
theorem s_chain {op op' : COp} (hu : X.A.units + 65 < cLine) (ha : PE X ea (tE X W a)) (hb : PE X eb (tE X W b)) (hc : PE X ec (tE X W c)) (hm : behindInMarks (cmpOf op') ec = false) :
    PE X (.Compare ea [cmpOf op, cmpOf op'] [eb, ec] pos) (tE X W (.chain op op' a b c)) :=
  PE.imp (pe_chain (opC op hu) (opC op' hu) ha hb hc (last_none hm)) fun σ H Q h => go_chain (fun _ _ _ _ _ q => q) h
theorem t_chain {op op' : COp} (hu : X.A.units + 65 < cLine) (ha : PE X ea (tE X W a)) (hb : PE X eb (tE X W b)) (hc : PE X ec (tE X W c)) (hm : behindInMarks (cmpOf op') ec = false) :
    PT X (.Compare ea [cmpOf op, cmpOf op'] [eb, ec] pos) (tT X W (.chain op op' a b c)) :=
  PT.imp (pt_chain (opC op hu) (opC op' hu) ha hb hc (last_none hm)) fun σ H Q h => by
    refine go_chain (Q := fun z H3 => ∃ k, z = .bl k ∧ Q k H3) (fun hid ρ H' d S' q v rv => ?_) h
    obtain ⟨b, e, q⟩ := q
    subst e
    cases rv
    exact ⟨b, rfl, q⟩
theorem plain_test {e : PySem.Expr} {env : Env} (h : (match e with | .UnaryOp .Not _ _ => false | .BoolOp _ _ _ => false | .IfExp _ _ _ _ => false | .Compare _ _ _ _ => false | _ => true) = true) :
    ∀ whole, isTrue e env whole = (do let v ← whole; standAt e.pos; holding [v] (truthy v)) := by
  intro whole
  cases e <;> first | rfl | (simp at h; done) | skip
  rename_i op _ _
  cases op <;> first | rfl | simp at h
end
end MI
namespace MI
open PySem PySem.Spec L2
section
variable {K : PySem.W.Frag} {mg : Str → Option Value} {hid : List Addr} {ρ : Rho} {H : Hp} {S : Store}
theorem asInts_rep : ∀ {ds : List D} {vs : List V} {ns : List Int}, RepL K hid ρ H vs ds → asInts ds = some ns → vs = ns.map V.int
  | [], _, ns, h, e => by cases h; simp [asInts] at e; subst e; rfl
  | d :: ds, _, ns, h, e => by
    cases h with
    | cons h1 h2 =>
      simp only [asInts] at e
      split at e
      · obtain ⟨ms, hm, rfl⟩ := Option.map_eq_some_iff.mp e
        cases h1
        rw [asInts_rep h2 hm]; rfl
      · cases e
theorem asBls_rep : ∀ {ds : List D} {vs : List V} {ns : List Bool}, RepL K hid ρ H vs ds → asBls ds = some ns → vs = ns.map V.bl
  | [], _, ns, h, e => by cases h; simp [asBls] at e; subst e; rfl
  | d :: ds, _, ns, h, e => by
    cases h with
    | cons h1 h2 =>
      simp only [asBls] at e
      split at e
      · obtain ⟨ms, hm, rfl⟩ := Option.map_eq_some_iff.mp e
        cases h1
        rw [asBls_rep h2 hm]; rfl
      · cases e
def tyName : Nat → String
  | 0 => "NoneType" | 1 => "bool" | 2 => "int" | 3 => "str" | 4 => "tuple" | _ => "list"
theorem kind_rep {v : V} {d : D} {k : Nat} (r : RelS K hid ρ H mg S) (h : Rep K hid ρ H v d) (e : kindD d S = some k) : TyX K H v (.type (tyName k)) ∧ k ≤ 5 := by
  unfold kindD at e
  split at e
  · cases e; cases h; exact ⟨.base .non, by decide⟩
  · cases e; cases h; exact ⟨.base (.bl _), by decide⟩
  · cases e; cases h; exact ⟨.base (.int _), by decide⟩
  · cases e; cases h; exact ⟨.base (.str _), by decide⟩
  · cases e
    cases h with
    | tup h1 _ _ _ => exact ⟨.base (.tup h1), by decide⟩
  · cases e
    cases h with
    | lst h1 _ _ _ => exact ⟨.base (.lst h1), by decide⟩
  · cases e
  · cases e
  · split at e
    · rename_i q
      cases e
      obtain ⟨a, ha, _, xs, h1, h2⟩ := r.at_ q (by simp)
      rw [h.ptr_ref ha]
      exact ⟨.base (.lst h1), by decide⟩
    · cases e
end
section
variable {X : Cx} {W : WX} {σ : L2.St} {H : Hp} {c a b : CE} {cs : CEs} {e ea eb ec : PySem.Expr} {es : List PySem.Expr} {p pos : Pos}
def rB (X : Cx) (f : List D → Store → Option D) : List V → Hp → VK → Prop := fun vs H Q => ∃ hid ρ S ds d, RelS X.K hid ρ H X.mg S ∧ RepL X.K hid ρ H vs ds ∧ f ds S = some d ∧
  ∀ ρ' H' v, Ext ρ H ρ' H' → RelS X.K hid ρ' H' X.mg S → Rep X.K hid ρ' H' v d → Q v H'
theorem one_arg {f : BFn} {S : Store} {ds : List D} {d : D} {hid : List Addr} {ρ : Rho} {vs : List V} (hf : ∀ x y, bi2 f x y = none) (h : RepL X.K hid ρ H vs ds) (e : biD f ds S = some d) : ∃ x dx, vs = [x] ∧ ds = [dx] ∧ Rep X.K hid ρ H x dx ∧ bi1 f dx S = some d := by
  unfold biD at e
  split at e
  · cases h with
    | cons h1 h2 => cases h2; exact ⟨_, _, rfl, rfl, h1, e⟩
  · rw [hf] at e; cases e
  · cases e
theorem two_args {f : BFn} {S : Store} {ds : List D} {d : D} {hid : List Addr} {ρ : Rho} {vs : List V} (hf : ∀ x, bi1 f x S = none) (h : RepL X.K hid ρ H vs ds) (e : biD f ds S = some d) : ∃ x y dx dy, vs = [x, y] ∧ ds = [dx, dy] ∧ Rep X.K hid ρ H x dx ∧ Rep X.K hid ρ H y dy ∧ bi2 f dx dy = some d := by
  unfold biD at e
  split at e
  · rw [hf] at e; cases e
  · cases h with
    | cons h1 h2 =>
      cases h2 with
      | cons h3 h4 => cases h4; exact ⟨_, _, _, _, rfl, rfl, h1, h3, e⟩
  · cases e
def biVal : BFn → Value
  | .abs => .builtin "abs" | .max2 => .builtin "max" | .min2 => .builtin "min" | .int => .type "int" | .len => .builtin "len" | .tuple => .type "tuple" | .sum => .builtin "sum" | .any => .builtin "any" | .all => .builtin "all"
  | .ord => .builtin "ord" | .str => .type "str" | .max1 => .builtin "max" | .maxK => .builtin "max" | _ => .none
def biName : BFn → Str
  | .abs => "abs" | .max2 => "max" | .min2 => "min" | .int => "int" | .len => "len" | .tuple => "tuple" | .sum => "sum" | .any => "any" | .all => "all"
  | .ord => "ord" | .str => "str" | .max1 => "max" | .maxK => "max" | _ => "isinstance"
def biCall : BFn → Bool
  | .abs => true | .max2 => true | .min2 => true | .int => true | .len => true | .tuple => true | .sum => true | .any => true | .all => true | .ord => true | .str => true | .max1 => true | .maxK => true | _ => false
theorem intKeys_eq : ∀ {kvs : List (Key × D)} {is : List Int}, intKeys kvs = some is → kvs.map (·.1) = is.map Sum.inl
  | [], _, h => by cases h; rfl
  | kv :: l, is, h => by
    unfold intKeys at h
    split at h
    · rename_i i e
      obtain ⟨js, h1, rfl⟩ := Option.map_eq_some_iff.mp h
      rw [List.map_cons, List.map_cons, intKeys_eq h1, e]
    · cases h
theorem repKV_keys {K : PySem.W.Frag} {hid : List Addr} {ρ : Rho} {H : Hp} {ks : List (Key × V)} {kvs : List (Key × D)} (h : RepKV K hid ρ H ks kvs) : ks.map (·.1) = kvs.map (·.1) := by
  unfold RepKV at h
  induction h with
  | nil => rfl
  | cons q t ih => rw [List.map_cons, List.map_cons, q.1, ih]
def rMaxK : List V → Hp → VK → Prop := fun vs H Q => ∃ (a : Addr) (kvs : List (Key × V)) (is : List Int), vs = [V.ref a] ∧ H a = some (.dK kvs) ∧ kvs.map (·.1) = is.map Sum.inl ∧ is ≠ [] ∧ ∀ m, m ∈ is → (∀ j ∈ is, j ≤ m) → Q (.int m) H
theorem cr_maxK {X : Cx} (hc : X.calm = true) : CallR X (.builtin "max") rMaxK := by
  intro pins s σ H vs us Q I r h
  obtain ⟨a, kvs, is, rfl, ha, hv, hne, q⟩ := h
  rw [Vals.ref1 r]
  obtain ⟨_, hsys, vs, rel, dof⟩ := dk_of I.hok ha
  obtain ⟨ep, dat⟩ := dof.dictAt
  obtain ⟨ob, es, ho, hex, hdat, hko, hpr, hnd⟩ := id dat
  have hlt : a < s.heap.objs.size := Heap.lt_size ho
  have hkeys : vs.map (·.1) = is.map Sum.inl := (KV.keys rel).symm.trans hv
  have hlv : vs.length = is.length := by
    have e1 := congrArg List.length hkeys
    rw [List.length_map, List.length_map] at e1
    exact e1
  have hlen : 0 < vs.length := by
    rw [hlv]
    exact List.length_pos_iff.mpr hne
  have hval : ∀ (i : Nat) (v : Value), (∃ k x, vs[i]? = some (k, x) ∧ (mixKind X.prog X.w).is k v = true) → ∃ t, v = Value.int (is.getD i 0) t := fun i v ⟨k, x, hk, hkey⟩ => by
    have e1 : (vs.map (·.1))[i]? = some k := by rw [List.getElem?_map, hk] <;> rfl
    rw [hkeys, List.getElem?_map] at e1
    obtain ⟨j, hj, e2⟩ := Option.map_eq_some_iff.mp e1
    subst e2
    have hi : Value.isInt j v = true := hkey
    obtain ⟨t, e3⟩ := Value.isInt_shape (k := j) (v := v) hi
    refine ⟨t, ?_⟩
    rw [e3, List.getD_eq_getElem?_getD, hj] <;> rfl
  refine call_max_walk (wpAny_pyIter_dict (knd := mixKind X.prog X.w) hsys dat ?_)
  refine ⟨_, _, _, _, _, _, _, rfl, Walks.dictKeys (knd := mixKind X.prog X.w) (A := X.A.in1) (I.ok.hd hc) s.heap.objs.size a (Nat.ne_of_lt hlt) vs ep,
    ⟨⟨_, Heap.get?_push_size _ rfl, rfl, rfl⟩, dat.keep fun b u e => Heap.get?_push_of_some _ e⟩, fun b hb => ?_, hlen, CmpOf.ints_gt (fun i => is.getD i 0) hval, fun v h' tk hP hk => ?_⟩
  · show b < (s.heap.push _).objs.size
    rw [Heap.size_push]
    rcases List.mem_cons.mp hb with e | hb
    · rw [e]
      exact Nat.lt_succ_self _
    · rw [List.mem_singleton.mp hb]
      exact Nat.lt_succ_of_lt hlt
  · obtain ⟨t, rfl⟩ := hval _ v hP
    obtain ⟨b1, b2⟩ := argBest_gt (fun i => is.getD i 0) (vs.length - 1)
    refine ⟨.int _, H, I.kept (t' := tk) fun b u e => hk b u (fun hmem => ?_) (Heap.get?_push_of_some _ e), ⟨t, rfl⟩, q _ ?_ fun j hj => ?_⟩
    · have e1 : b = s.heap.objs.size := List.mem_singleton.mp hmem
      have e2 := Heap.lt_size e
      rw [e1] at e2
      exact absurd e2 (Nat.lt_irrefl _)
    · have hb : argBest (fun i j => decide (is.getD i 0 > is.getD j 0)) (vs.length - 1) < is.length := by omega
      rw [List.getD_eq_getElem?_getD, List.getElem?_eq_getElem hb]
      exact List.getElem_mem hb
    · obtain ⟨i, hi, e⟩ := List.mem_iff_getElem.mp hj
      have e2 : is.getD i 0 = j := by rw [List.getD_eq_getElem?_getD, List.getElem?_eq_getElem hi, ← e] <;> rfl
      rw [← e2]
      exact b2 i (by omega)
theorem list_max {ns : List Int} {m : Int} (h : ns.max? = some m) : 0 < ns.length ∧ m ∈ ns ∧ ∀ y ∈ ns, y ≤ m := by
  have h1 := List.max?_eq_some_iff.mp h
  refine ⟨?_, h1.1, h1.2⟩
  cases ns with
  | nil => simp at h
  | cons _ _ => simp
theorem cB (hc : X.calm = true) (hu : X.A.units + 65 < cLine) : ∀ f : BFn, biCall f = true → CallR X (biVal f) (rB X (biD f)) := by
  intro f hf pins s σ H vs us Q I r h
  obtain ⟨hid, ρ, S, ds, d, rs, rl, e, k⟩ := h
  have out : ∀ d', d' = d → ∀ v, Rep X.K hid ρ H v d' → Q v H := fun d' z v rv => by subst z; exact k _ _ _ Ext.refl rs rv
  cases f with
  | abs =>
    obtain ⟨x, dx, rfl, rfl, rx, e1⟩ := one_arg (fun _ _ => rfl) rl e
    simp only [bi1] at e1
    split at e1
    · cases rx
      exact call_abs pins s σ H _ us Q I r ⟨_, rfl, out _ (Option.some.inj e1) _ (.int _)⟩
    · cases e1
  | max2 =>
    obtain ⟨x, y, dx, dy, rfl, rfl, rx, ry, e1⟩ := two_args (fun _ => rfl) rl e
    simp only [bi2] at e1
    split at e1
    · split at e1
      · cases rx; cases ry
        exact call_max2 hc pins s σ H _ us Q I r ⟨_, _, rfl, out _ (Option.some.inj e1) _ (.int _)⟩
      · cases e1
    · cases e1
  | min2 =>
    obtain ⟨x, y, dx, dy, rfl, rfl, rx, ry, e1⟩ := two_args (fun _ => rfl) rl e
    simp only [bi2] at e1
    split at e1
    · split at e1
      · cases rx; cases ry
        exact call_min2 hc pins s σ H _ us Q I r ⟨_, _, rfl, out _ (Option.some.inj e1) _ (.int _)⟩
      · cases e1
    · cases e1
  | int =>
    obtain ⟨x, dx, rfl, rfl, rx, e1⟩ := one_arg (fun _ _ => rfl) rl e
    simp only [bi1] at e1
    split at e1
    · cases rx
      exact call_int1 pins s σ H _ us Q I r (.inl ⟨_, rfl, out _ (Option.some.inj e1) _ (.int _)⟩)
    · cases rx
      exact call_int1 pins s σ H _ us Q I r (.inr ⟨_, rfl, out _ (Option.some.inj e1) _ (.int _)⟩)
    · split at e1
      · rename_i hz
        split at e1
        · rename_i n hn
          cases rx
          exact call_int_str pins s σ H _ us Q I r ⟨_, n, rfl, hn, hz, out _ (Option.some.inj e1) _ (.int _)⟩
        · cases e1
      · cases e1
    · cases e1
  | len =>
    obtain ⟨x, dx, rfl, rfl, rx, e1⟩ := one_arg (fun _ _ => rfl) rl e
    simp only [bi1] at e1
    obtain ⟨n, hn, rfl⟩ := Option.map_eq_some_iff.mp e1
    have seq : ∀ (dd : D), dx = dd → (seqOf dd S).map List.length = some n → wpAny (model X.prog X.w) X.A (call (biVal .len) us) (EP X pins σ Q) X.xe s := fun dd z hs => by
      subst z
      obtain ⟨es, he, rfl⟩ := Option.map_eq_some_iff.mp hs
      obtain ⟨a, xs, rfl, h1, h2⟩ := seq_rep rs rx he
      exact call_len_seq pins s σ H _ us Q I r ⟨a, xs, rfl, h1, out _ rfl _ (by rw [h2.length]; exact .int _)⟩
    unfold lenD at hn
    split at hn
    · split at hn
      · rename_i hz
        cases rx; cases hn
        exact call_len_str pins s σ H _ us Q I r ⟨_, rfl, le_line hz, out _ rfl _ (.int _)⟩
      · cases hn
    · split at hn
      · rename_i q
        cases hn
        obtain ⟨a, ha, _, ks, h1, h2⟩ := rs.at_ q (by simp)
        have ex := rx.ptr_ref ha
        subst ex
        obtain ⟨u, rfl, ru⟩ := vals1 r
        cases ru
        exact d_len I (.inl h1) fun t s' I' => ⟨.int ks.length, H, I', ⟨t, rfl⟩, out _ rfl _ (by rw [kv_len h2]; exact .int _)⟩
      · rename_i q
        cases hn
        obtain ⟨a, ha, _, ks, o, h1, h2⟩ := rs.at_ q (by simp)
        have ex := rx.ptr_ref ha
        subst ex
        obtain ⟨u, rfl, ru⟩ := vals1 r
        cases ru
        exact d_len I (.inr ⟨o, h1⟩) fun t s' I' => ⟨.int ks.length, H, I', ⟨t, rfl⟩, out _ rfl _ (by rw [kv_len h2]; exact .int _)⟩
      · exact seq _ rfl hn
    · exact seq _ rfl hn
  | tuple =>
    obtain ⟨x, dx, rfl, rfl, rx, e1⟩ := one_arg (fun _ _ => rfl) rl e
    simp only [bi1] at e1
    split at e1
    · cases e1
    · rename_i hnc
      obtain ⟨es, he, rfl⟩ := Option.map_eq_some_iff.mp e1
      by_cases ht : ∃ ts, dx = .tup ts
      · obtain ⟨ts, rfl⟩ := ht
        cases he
        cases rx with
        | tup g1 g2 g3 g4 => exact call_tuple_of pins s σ H _ us Q I r ⟨_, _, rfl, .inr ⟨SqT.of g1, out _ rfl _ (.tup g1 g2 g3 g4)⟩⟩
      · obtain ⟨a, xs, rfl, h1, h2⟩ := lst_rep rs rx he (fun ts z => ht ⟨ts, z⟩) (fun ts z => hnc ts z)
        refine call_tuple_of pins s σ H _ us Q I r ⟨a, xs, rfl, .inl ⟨h1, fun l hl => ?_⟩⟩
        obtain ⟨q1, q2, q3⟩ := new_tup rs h2 hl
        exact k _ _ _ q1 q2 q3
  | sum =>
    obtain ⟨x, dx, rfl, rfl, rx, e1⟩ := one_arg (fun _ _ => rfl) rl e
    simp only [bi1] at e1
    obtain ⟨es, he, e2⟩ := Option.bind_eq_some_iff.mp e1
    split at e2
    · cases e2
    · rename_i h2'
      obtain ⟨ns, hn, rfl⟩ := Option.map_eq_some_iff.mp e2
      by_cases ht : ∃ ts, dx = .tup ts
      · obtain ⟨ts, rfl⟩ := ht
        cases he
        cases rx with
        | tup g1 g2 g3 g4 =>
          have := asInts_rep g4 hn
          subst this
          exact cr_sumT hc pins s σ H _ us Q I r ⟨_, ns, rfl, SqT.of g1, out _ rfl _ (.int _)⟩
      · obtain ⟨a, xs, rfl, h1, h2⟩ := lst_rep rs rx he (fun ts z => ht ⟨ts, z⟩) h2'
        have := asInts_rep h2 hn
        subst this
        exact cr_sum hc pins s σ H _ us Q I r ⟨a, ns, rfl, h1, out _ rfl _ (.int _)⟩
  | any =>
    obtain ⟨x, dx, rfl, rfl, rx, e1⟩ := one_arg (fun _ _ => rfl) rl e
    simp only [bi1] at e1
    obtain ⟨es, he, e2⟩ := Option.bind_eq_some_iff.mp e1
    split at e2
    · cases e2
    · cases e2
    · rename_i h1' h2'
      obtain ⟨ns, hn, rfl⟩ := Option.map_eq_some_iff.mp e2
      obtain ⟨a, xs, rfl, h1, h2⟩ := lst_rep rs rx he h1' h2'
      have := asBls_rep h2 hn
      subst this
      exact cr_any hc pins s σ H _ us Q I r ⟨a, ns, rfl, h1, out _ rfl _ (.bl _)⟩
  | all =>
    obtain ⟨x, dx, rfl, rfl, rx, e1⟩ := one_arg (fun _ _ => rfl) rl e
    simp only [bi1] at e1
    obtain ⟨es, he, e2⟩ := Option.bind_eq_some_iff.mp e1
    split at e2
    · cases e2
    · cases e2
    · rename_i h1' h2'
      obtain ⟨ns, hn, rfl⟩ := Option.map_eq_some_iff.mp e2
      obtain ⟨a, xs, rfl, h1, h2⟩ := lst_rep rs rx he h1' h2'
      have := asBls_rep h2 hn
      subst this
      exact cr_all hc pins s σ H _ us Q I r ⟨a, ns, rfl, h1, out _ rfl _ (.bl _)⟩
  | ord =>
    obtain ⟨x, dx, rfl, rfl, rx, e1⟩ := one_arg (fun _ _ => rfl) rl e
    simp only [bi1] at e1
    split at e1
    · split at e1
      · rename_i hz
        cases rx
        exact call_ord pins s σ H _ us Q I r ⟨_, rfl, hz, out _ (Option.some.inj e1) _ (.int _)⟩
      · cases e1
    · cases e1
  | str =>
    obtain ⟨x, dx, rfl, rfl, rx, e1⟩ := one_arg (fun _ _ => rfl) rl e
    simp only [bi1] at e1
    split at e1
    · split at e1
      · rename_i hz
        cases rx
        exact call_str_int pins s σ H _ us Q I r ⟨_, rfl, hz, out _ (Option.some.inj e1) _ (.str _)⟩
      · cases e1
    · cases e1
  | max1 =>
    obtain ⟨x, dx, rfl, rfl, rx, e1⟩ := one_arg (fun _ _ => rfl) rl e
    simp only [bi1] at e1
    obtain ⟨es, he, e2⟩ := Option.bind_eq_some_iff.mp e1
    split at e2
    · cases e2
    · cases e2
    · rename_i h1' h2'
      obtain ⟨ns, hn, e3⟩ := Option.bind_eq_some_iff.mp e2
      obtain ⟨m, hm, rfl⟩ := Option.map_eq_some_iff.mp e3
      obtain ⟨a, xs, rfl, h1, h2⟩ := lst_rep rs rx he h1' h2'
      have := asInts_rep h2 hn
      subst this
      obtain ⟨m1, m2, m3⟩ := list_max hm
      refine cr_max hc pins s σ H _ us Q I r ⟨a, ns, rfl, h1, m1, fun m' i1 i2 => ?_⟩
      have : m' = m := Int.le_antisymm (m3 m' i1) (i2 m m2)
      subst this
      exact out _ rfl _ (.int _)
  | maxK =>
    obtain ⟨x, dx, rfl, rfl, rx, e1⟩ := one_arg (fun _ _ => rfl) rl e
    simp only [bi1] at e1
    split at e1
    · rename_i n
      split at e1
      · rename_i kvs q1
        obtain ⟨ns, hn, e3⟩ := Option.bind_eq_some_iff.mp e1
        obtain ⟨m, hm, rfl⟩ := Option.map_eq_some_iff.mp e3
        obtain ⟨ad, ha, _, ks, h1, h2⟩ := rs.at_ q1 (by simp)
        obtain ⟨m1, m2, m3⟩ := list_max hm
        have ea := rx.ptr_ref ha
        subst ea
        refine cr_maxK hc pins s σ H _ us Q I r ⟨ad, ks, ns, rfl, h1, (repKV_keys h2).trans (intKeys_eq hn), fun z => ?_, fun m' i1 i2 => ?_⟩
        · rw [z] at m1; cases m1
        · have : m' = m := Int.le_antisymm (m3 m' i1) (i2 m m2)
          subst this
          exact out _ rfl _ (.int _)
      · cases e1
    · cases e1
  | _ => cases hf
theorem go_args {f : List D → Store → Option D} {Q : VK} (h : Go X W σ H (fun env S => (evs cs env S).bind fun ds S => Rs.of (f ds S) S) fun hid ρ H' d _ => ∀ v, Rep X.K hid ρ H' v d → Q v H') : tCB (rB X f) (tA X W cs) σ H Q := by
  refine h.bind fun hid ρ1 H1 ds S1 env r1 e1 p1 vs rl => ?_
  obtain ⟨d, hd, k⟩ := p1.of
  exact ⟨hid, ρ1, S1, ds, d, r1, rl, hd, fun ρ' H' v e' r' rv => k ρ' H' e' r' v rv⟩
theorem s_bi {f : BFn} (hc : X.calm = true) (hu : X.A.units + 65 < cLine) (hf : biCall f = true) (hg : Gl X (biName f)) (hm : X.mg (biName f) = none) (ha : PA X (e :: es) (tA X W cs)) (hs : ((e :: es).all fun e => !isStar e) = true) :
    PE X (.Call (.Name (biName f) p) (e :: es) [] pos) (tE X W (.bi f cs)) := by
  have hs' : isStar e = false ∧ (es.all fun e => !isStar e) = true := by simpa using hs
  have st := star_cons hs'.1 es X.env
  have pl := back_none pos (star_none X.env hs'.2)
  have w : ∀ σ H Q, tE X W (.bi f cs) σ H Q → tCB (rB X (biD f)) (tA X W cs) σ H Q := fun σ H Q h => go_args (f := biD f) h
  have q := cB (X := X) hc hu f hf
  cases f with
  | abs => exact PE.imp (pe_callB q hg hm (by decide +kernel) ha (by decide) (by decide) st pl) w
  | max2 => exact PE.imp (pe_callB q hg hm (by decide +kernel) ha (by decide) (by decide) st pl) w
  | min2 => exact PE.imp (pe_callB q hg hm (by decide +kernel) ha (by decide) (by decide) st pl) w
  | int => exact PE.imp (pe_callTy q hg hm (by decide +kernel) ha (by decide) (by decide) st pl) w
  | len => exact PE.imp (pe_callB q hg hm (by decide +kernel) ha (by decide) (by decide) st pl) w
  | tuple => exact PE.imp (pe_callTy q hg hm (by decide +kernel) ha (by decide) (by decide) st pl) w
  | sum => exact PE.imp (pe_callB q hg hm (by decide +kernel) ha (by decide) (by decide) st pl) w
  | any => exact PE.imp (pe_callB q hg hm (by decide +kernel) ha (by decide) (by decide) st pl) w
  | all => exact PE.imp (pe_callB q hg hm (by decide +kernel) ha (by decide) (by decide) st pl) w
  | ord => exact PE.imp (pe_callB q hg hm (by decide +kernel) ha (by decide) (by decide) st pl) w
  | str => exact PE.imp (pe_callTy q hg hm (by decide +kernel) ha (by decide) (by decide) st pl) w
  | max1 => exact PE.imp (pe_callB q hg hm (by decide +kernel) ha (by decide) (by decide) st pl) w
  | maxK => exact PE.imp (pe_callB q hg hm (by decide +kernel) ha (by decide) (by decide) st pl) w
  | _ => cases hf
/-! ### isinstance -/
def isiTy : BFn → String
  | .isList => "list" | .isTuple => "tuple" | .isBool => "bool" | .isStr => "str" | .isInt => "int" | _ => ""
def isiOk : BFn → Bool
  | .isList => true | .isTuple => true | .isBool => true | .isStr => true | .isInt => true | _ => false
def isiAns : BFn → Nat → Bool
  | .isList, k => k == 5 | .isTuple, k => k == 4 | .isBool, k => k == 1 | .isStr, k => k == 3 | .isInt, k => k == 1 || k == 2 | _, _ => false
theorem isi_ans {f : BFn} (hf : isiOk f = true) {d d' : D} {S : Store} (e : bi1 f d S = some d') : ∃ k, kindD d S = some k ∧ d' = .bl (isiAns f k) := by
  cases f <;> first | (cases hf; done) | (obtain ⟨k, hk, rfl⟩ := Option.map_eq_some_iff.mp e; exact ⟨k, hk, rfl⟩)
theorem isi_kit {K : PySem.W.Frag} {f : BFn} (hf : isiOk f = true) {k : Nat} (hk : k ≤ 5) : PySem.W.kitOne K (.type (tyName k)) (.type (isiTy f)) = some (isiAns f k) := by
  have : k = 0 ∨ k = 1 ∨ k = 2 ∨ k = 3 ∨ k = 4 ∨ k = 5 := by omega
  cases f <;> first | (cases hf; done) | skip
  all_goals rcases this with rfl | rfl | rfl | rfl | rfl | rfl
  all_goals exact kit_ty (by decide +kernel)
theorem s_isi {f : BFn} {T : Str} {pT : Pos} (hT : (T == Str.ofString (isiTy f)) = true) (hf : isiOk f = true) (hg : Gl X "isinstance") (hm : X.mg "isinstance" = none) (gT : Gl X T) (mT : X.mg T = none) (ha : PE X e (tE X W c)) (hs : isStar e = false) :
    PE X (.Call (.Name "isinstance" p) [e, .Name T pT] [] pos) (tE X W (.bi f (.cons c .nil))) := by
  have eT : T = Str.ofString (isiTy f) := by simpa using hT
  have bT : bootBuiltins T = some (.type (isiTy f)) ∧ T ≠ "__name__" ∧ (T == ("__debug__" : Str)) = false := by
    subst eT
    cases f <;> first | (cases hf; done) | exact ⟨by decide +kernel, by decide, by decide⟩
  have pN : PE X (.Name T pT) (tC (.ty (isiTy f))) := pe_bltn gT mT bT.1 rfl bT.2.1 bT.2.2
  have st : starEach [e, .Name T pT] X.env = (false, eval e X.env) :: starEach [.Name T pT] X.env := star_cons hs _ _
  have pa : PA X [e, .Name T pT] (tCons (tE X W c) (tCons (tC (.ty (isiTy f))) tNil)) := pa_cons ha (pa_cons pN pa_nil rfl) st
  refine PE.imp (pe_callB call_isi hg hm (by decide +kernel) pa (by decide) (by decide) st rfl) fun σ H Q h => ?_
  have h' : Go X W σ H (fun env S => ((ev c env S).bind fun x S => Rs.ok [x] S).bind fun ds S => Rs.of (biD f ds S) S) (fun hid ρ H' d _ => ∀ v, Rep X.K hid ρ H' v d → Q v H') := h
  have h2 : Go X W σ H (fun env S => (ev c env S).bind fun x S => Rs.of (bi1 f x S) S) (fun hid ρ H' d _ => ∀ v, Rep X.K hid ρ H' v d → Q v H') := by
    obtain ⟨hid, ρ, env, S, r, re, q⟩ := h'
    refine ⟨hid, ρ, env, S, r, re, ?_⟩
    have e0 : ((ev c env S).bind fun x S => Rs.ok [x] S).bind (fun ds S => Rs.of (biD f ds S) S) = (ev c env S).bind fun x S => Rs.of (bi1 f x S) S := by
      cases ev c env S <;> rfl
    show Post X.K X.mg hid ρ H ((ev c env S).bind fun x S => Rs.of (bi1 f x S) S) _ _
    rw [← e0]
    exact q
  refine h2.bind fun hid ρ1 H1 x S1 env r1 e1 p1 v rv => ?_
  obtain ⟨d, hd, k⟩ := p1.of
  obtain ⟨kk, hk, rfl⟩ := isi_ans hf hd
  obtain ⟨ty, hk5⟩ := kind_rep r1 rv hk
  exact ⟨v, .ty (isiTy f), _, _, isiAns f kk, rfl, .ty _, ty, isi_kit hf hk5, k _ _ Ext.refl r1 _ (.bl _)⟩
end
end MI
namespace MI
open PySem PySem.Spec L2
section
variable {K : PySem.W.Frag} {mg : Str → Option Value} {hid : List Addr} {ρ : Rho} {H : Hp} {S : Store}
theorem atI_rep {vs : List V} {ds : List D} {k : Int} {d : D} (h : RepL K hid ρ H vs ds) (e : atI ds k = some d) : ∃ v, atI vs k = some v ∧ Rep K hid ρ H v d := by
  unfold atI at e ⊢
  rw [h.length]
  obtain ⟨j, hj, hd⟩ := Option.bind_eq_some_iff.mp e
  obtain ⟨v, h1, h2⟩ := h.get hd
  exact ⟨v, by rw [hj]; exact h1, h2⟩
theorem cut_rep {vs : List V} {ds : List D} {lo hi : Option Int} (h : RepL K hid ρ H vs ds) : RepL K hid ρ H (cutV vs lo hi) (cutD ds lo hi) := by
  unfold cutV cutD
  rw [h.length]
  exact (h.drop _).take _
end
section
variable {X : Cx} {W : WX} {σ : L2.St} {H : Hp} {c a b : CE} {cs : CEs} {e ea eb ec : PySem.Expr} {es : List PySem.Expr} {p pos : Pos}
theorem ixR (hu : X.A.units + 65 < cLine) : IxR X (rD X ixD) := by
  intro value slice pins s σ H x y v u Q I rx ry h hs
  obtain ⟨hid, ρ, S, dx, dy, d, r, hx, hy, hd, k⟩ := h
  unfold ixD at hd
  split at hd
  · split at hd
    · rename_i o d' hg
      cases hd
      obtain ⟨a, ov, rfl, g, q⟩ := dget_rep r hx hy hg
      rcases q with ⟨_, q⟩ | ⟨w, d2, q1, q2, q3⟩
      · cases q
      · cases q2
        subst q1
        cases rx
        exact PyProof.Rows.tail_any (dict_typeIs I g) PySem.F.slot_dict_getitem.lookup (d_getItem (by omega) I g ry fun w' s' I' rw' => ⟨w, H, I', rw', k _ _ _ Ext.refl r q3⟩) hs
    · cases hd
  · split at hd
    · rename_i kk
      cases hy
      split at hd
      · split at hd
        · rename_i hz
          obtain ⟨cc, hc, rfl⟩ := Option.map_eq_some_iff.mp hd
          cases hx
          exact ix_str value slice pins s σ H _ _ v u Q I rx ry ⟨_, kk, cc, rfl, rfl, le_line hz, hc, k _ _ _ Ext.refl r (.str _)⟩ hs
        · cases hd
      · obtain ⟨ds, h1, h2⟩ := Option.bind_eq_some_iff.mp hd
        obtain ⟨a, xs, rfl, h3, h4⟩ := seq_rep r hx h1
        obtain ⟨w, h5, h6⟩ := atI_rep h4 h2
        rcases h3 with h3 | h3
        · exact ix_list value slice pins s σ H _ _ v u Q I rx ry ⟨a, xs, kk, w, rfl, rfl, h3, h5, k _ _ _ Ext.refl r h6⟩ hs
        · exact ix_tup value slice pins s σ H _ _ v u Q I rx ry ⟨a, xs, kk, w, rfl, rfl, h3, h5, k _ _ _ Ext.refl r h6⟩ hs
    · cases hd
def isSlice : PySem.Expr → Bool
  | .Slice _ _ _ _ => true
  | _ => false
theorem plainIx (h : isSlice eb = false) : PlainIx eb := by
  intro o i
  cases eb <;> first | rfl | cases h
theorem s_ix (hu : X.A.units + 65 < cLine) (ha : PE X ea (tE X W a)) (hb : PE X eb (tE X W b)) (hs : isSlice eb = false) : PE X (.Subscript ea eb pos) (tE X W (.ix a b)) :=
  PE.imp (pe_ix (ixR hu) ha hb (plainIx hs)) fun σ H Q h => go_op (f := ixD) h
/-- a slice, by values -/
def rSlD (X : Cx) : V → Option Int → Option Int → Hp → VK → Prop := fun x lo hi H Q => ∃ hid ρ S dx d, RelS X.K hid ρ H X.mg S ∧ Rep X.K hid ρ H x dx ∧ slD dx lo hi S = some d ∧
  ∀ ρ' H' v, Ext ρ H ρ' H' → RelS X.K hid ρ' H' X.mg S → Rep X.K hid ρ' H' v d → Q v H'
theorem slR : SlR X (rSlD X) := by
  intro pins s σ H x v vl vu lo hi sl Q I rx hs pl pu h
  obtain ⟨hid, ρ, S, dx, d, r, hx, hd, k⟩ := h
  unfold slD at hd
  split at hd
  · cases hd
    cases hx with
    | tup h1 h2 h3 h4 =>
      refine sl_tupA pins s σ H _ v vl vu lo hi sl Q I rx hs pl pu ⟨_, _, rfl, SqT.of h1, fun w => ?_, fun _ p hp => ?_⟩
      · refine k _ _ _ Ext.refl r ?_
        rename_i ds a xs
        have e : cutD ds lo hi = ds := by
          unfold cutD
          rw [← h4.length, w.1, w.2, List.drop_zero, Nat.sub_zero, h4.length, List.take_length]
        rw [e]
        exact .tup h1 h2 h3 h4
      · obtain ⟨q1, q2, q3⟩ := new_tup r (cut_rep (lo := lo) (hi := hi) h4) hp
        exact k _ _ _ q1 q2 q3
  · cases hd
    cases hx with
    | lst h1 h2 h3 h4 =>
      refine sl_list pins s σ H _ v vl vu lo hi sl Q I rx hs pl pu ⟨_, _, rfl, SqL.of h1, fun p hp => ?_⟩
      obtain ⟨q1, q2, q3⟩ := new_lst r (cut_rep (lo := lo) (hi := hi) h4) hp
      exact k _ _ _ q1 q2 q3
  · split at hd
    · rename_i q
      cases hd
      obtain ⟨a, ha, _, xs, h1, h2⟩ := r.at_ q (by simp)
      have ex := hx.ptr_ref ha
      subst ex
      refine sl_list pins s σ H _ v vl vu lo hi sl Q I rx hs pl pu ⟨_, _, rfl, SqL.of h1, fun p hp => ?_⟩
      obtain ⟨q1, q2, q3⟩ := new_lst r (cut_rep (lo := lo) (hi := hi) h2) hp
      exact k _ _ _ q1 q2 q3
    · rename_i q
      cases hd
      obtain ⟨a, ha, _, xs, o, h1, h2⟩ := r.at_ q (by simp)
      have ex := hx.ptr_ref ha
      subst ex
      refine sl_list pins s σ H _ v vl vu lo hi sl Q I rx hs pl pu ⟨_, _, rfl, .inl (.inr ⟨o, h1⟩), fun p hp => ?_⟩
      obtain ⟨q1, q2, q3⟩ := new_lst r (cut_rep (lo := lo) (hi := hi) h2) hp
      exact k _ _ _ q1 q2 q3
    · cases hd
  · split at hd
    · rename_i hz
      cases hd
      cases hx
      exact C8.sl_txt pins s σ H _ v vl vu lo hi sl Q I rx hs pl pu ⟨_, rfl, le_line hz, k _ _ _ Ext.refl r (.str _)⟩
    · cases hd
  · cases hd
theorem s_none : PO X none (tO X W .none) := PO.imp po_none fun σ H Q h => by
  obtain ⟨hid, ρ, env, S, r, re, p⟩ := h
  have p' : Post X.K X.mg hid ρ H (Rs.ok none S) (fun _ H' o _ => Q o H') (fun cls d H' => W cls d σ H') := p
  exact p'.here r
theorem s_some (ha : PE X ea (tE X W a)) : PO X (some ea) (tO X W (.some a)) := PO.imp (po_some ha) fun σ H Q h => by
  have h' : Go X W σ H (fun env S => (ev a env S).bind fun x S => (match x with | D.int i => Rs.ok (some i) S | _ => Rs.stuck)) (fun _ _ H' o _ => Q o H') := h
  refine h'.bind fun hid ρ1 H1 x S1 env r1 e1 p1 v rv => ?_
  split at p1
  · cases rv
    exact ⟨_, rfl, p1.here r1⟩
  · exact p1.elim
theorem s_sl {lo hi : CO} {el eh : Option PySem.Expr} {p2 : Pos} (ha : PE X ea (tE X W a)) (hl : PO X el (tO X W lo)) (hh : PO X eh (tO X W hi)) : PE X (.Subscript ea (.Slice el eh none p2) pos) (tE X W (.sl a lo hi)) := by
  refine PE.imp (pe_slice slR ha hl hh) fun σ H Q h => ?_
  have h' : Go X W σ H (fun env S => (ev a env S).bind fun x S => (evN lo env S).bind fun l S => (evN hi env S).bind fun h S => Rs.of (slD x l h S) S) (fun hid ρ H' d _ => ∀ v, Rep X.K hid ρ H' v d → Q v H') := h
  refine h'.bind fun hid ρ1 H1 x S1 env r1 e1 p1 v rv => ?_
  refine ⟨hid, ρ1, env, S1, r1, e1, p1.bind fun ρ2 H2 l S2 ex2 r2 p2 => ?_⟩
  refine ⟨hid, ρ2, env, S2, r2, e1.mono ex2, p2.bind fun ρ3 H3 h S3 ex3 r3 p3 => ?_⟩
  obtain ⟨d, hd, k⟩ := p3.of
  exact ⟨hid, ρ3, S3, x, d, r3, (rv.mono ex2).mono ex3, hd, fun ρ' H' w e' r' rw' => k ρ' H' e' r' w rw'⟩
/-! ### calls -/
/-- a def's promise, from its reading -/
def spOf (K : PySem.W.Frag) (mg : Str → Option Value) (g : Fn) : Sp := fun vs H Q E => ∃ hid ρ S ds, RelS K hid ρ H mg S ∧ RepL K hid ρ H vs ds ∧
  Post K mg hid ρ H (g ds S) (fun ρ' H' d _ => ∀ v, Rep K hid ρ' H' v d → Q v H') fun cls d H' => E cls d H'
structure CalOk (P : Program) (w : World) (K : PySem.W.Frag) (mg : Str → Option Value) (base : Heap) (lv : Nat) (x : Str) (g : Fn) : Prop where
  ex : ∃ (k : Nat) (f : Addr) (fd : FuncData) (ps : List Str), FnOk P w K mg base (L2N.CX P w) k f fd ps (spOf K mg g) ∧ mg x = some (.ref f) ∧ PySem.W.keepIn K (.ref f) = true ∧ Binds K fd ps [] ∧ k ≤ lv
theorem s_call {lv : Nat} {x : Str} {g : Fn} (C : CalOk X.prog X.w X.K X.mg X.base lv x g) (hr : Room lv X.A) (tk : L2N.Takes X W) (hg : Gl X x) (hd : (x == ("__debug__" : Str)) = false) (ha : PA X (e :: es) (tA X W cs))
    (hs : ((e :: es).all fun e => !isStar e) = true) : PE X (.Call (.Name x p) (e :: es) [] pos) (tE X W (.call x g cs)) := by
  obtain ⟨k, f, fd, ps, F, hm, hk, hb, hkl⟩ := C.ex
  have hs' : isStar e = false ∧ (es.all fun e => !isStar e) = true := by simpa using hs
  refine PE.imp (pe_callS F (hr.mono hkl) hg hm hk hb (fun σ => L2N.passAt tk σ) ha hd (star_cons hs'.1 es X.env) (back_none pos (star_none X.env hs'.2))) fun σ H Q h => ?_
  have h' : Go X W σ H (fun env S => (evs cs env S).bind fun ds S => g ds S) (fun hid ρ H' d _ => ∀ v, Rep X.K hid ρ H' v d → Q v H') := h
  refine h'.bind fun hid ρ1 H1 ds S1 env r1 e1 p1 vs rl => ?_
  exact ⟨hid, ρ1, S1, ds, r1, rl, p1⟩
end
end MI
namespace MI
open PySem PySem.Spec L2
/-! ### slots -/
theorem wipe_get (σ : L2.St) : ∀ (vs : List Nat) (j : Nat), (wipe σ vs)[j]? = if j ∈ vs then (σ[j]?).map (fun _ => none) else σ[j]?
  | [], j => by simp [wipe]
  | v :: vs, j => by
    have ih := wipe_get σ vs j
    unfold wipe
    by_cases hj : v = j
    · subst hj
      rw [if_pos List.mem_cons_self]
      by_cases hl : v < (wipe σ vs).length
      · rw [List.getElem?_set_self hl]
        have hl' : v < σ.length := by rwa [wipe_length] at hl
        rw [List.getElem?_eq_getElem hl']; rfl
      · rw [List.getElem?_eq_none (by simpa using hl)]
        have hl' : ¬ v < σ.length := by rwa [wipe_length] at hl
        rw [List.getElem?_eq_none (by omega)]; rfl
    · rw [List.getElem?_set_ne hj, ih]
      have : (j ∈ v :: vs) ↔ j ∈ vs := by simp [List.mem_cons, Ne.symm hj]
      simp only [this]
theorem wipeE_get (σ : MEnv) : ∀ (vs : List Nat) (j : Nat), (wipeE σ vs)[j]? = if j ∈ vs then (σ[j]?).map (fun _ => none) else σ[j]?
  | [], j => by simp [wipeE]
  | v :: vs, j => by
    have ih := wipeE_get σ vs j
    have hlen : ∀ vs, (wipeE σ vs).length = σ.length := fun vs => by
      induction vs with
      | nil => rfl
      | cons a b ih => unfold wipeE; rw [List.length_set]; exact ih
    unfold wipeE
    by_cases hj : v = j
    · subst hj
      rw [if_pos List.mem_cons_self]
      by_cases hl : v < (wipeE σ vs).length
      · rw [List.getElem?_set_self hl]
        have hl' : v < σ.length := by rwa [hlen] at hl
        rw [List.getElem?_eq_getElem hl']; rfl
      · rw [List.getElem?_eq_none (by simpa using hl)]
        have hl' : ¬ v < σ.length := by rwa [hlen] at hl
        rw [List.getElem?_eq_none (by omega)]; rfl
    · rw [List.getElem?_set_ne hj, ih]
      have : (j ∈ v :: vs) ↔ j ∈ vs := by simp [List.mem_cons, Ne.symm hj]
      simp only [this]
theorem wipeE_len (σ : MEnv) : ∀ vs, (wipeE σ vs).length = σ.length
  | [] => rfl
  | v :: vs => by unfold wipeE; rw [List.length_set]; exact wipeE_len σ vs
theorem wipe_set {σ : L2.St} {vs : List Nat} {i : Nat} {o : Option V} (hi : i ∈ vs) : wipe (σ.set i o) vs = wipe σ vs := by
  apply List.ext_getElem?
  intro j
  rw [wipe_get, wipe_get]
  by_cases hj : j ∈ vs
  · rw [if_pos hj, if_pos hj]
    by_cases h : i = j
    · subst h
      by_cases hl : i < σ.length
      · rw [List.getElem?_set_self hl, List.getElem?_eq_getElem hl]; rfl
      · rw [List.getElem?_eq_none (by rw [List.length_set]; omega), List.getElem?_eq_none (by omega)]
    · rw [List.getElem?_set_ne h]
  · rw [if_neg hj, if_neg hj]
    have h : i ≠ j := fun z => hj (z ▸ hi)
    rw [List.getElem?_set_ne h]
theorem wipe_wipe (σ : L2.St) (vs : List Nat) : wipe (wipe σ vs) vs = wipe σ vs := by
  apply List.ext_getElem?
  intro j
  rw [wipe_get, wipe_get]
  by_cases hj : j ∈ vs
  · rw [if_pos hj, if_pos hj, Option.map_map]; rfl
  · rw [if_neg hj, if_neg hj]
section
variable {K : PySem.W.Frag} {mg : Str → Option Value} {hid hid' : List Addr} {ρ : Rho} {H : Hp} {S : Store} {σ : L2.St} {env env' : MEnv}
theorem RelE.wipe (h : RelE K hid ρ H σ env) (vs : List Nat) : RelE K hid ρ H (wipe σ vs) (wipeE env vs) := by
  refine ⟨by rw [wipe_length, wipeE_len]; exact h.len, fun i d hd => ?_⟩
  rw [wipeE_get] at hd
  rw [wipe_get]
  by_cases hi : i ∈ vs
  · rw [if_pos hi] at hd
    cases q : env[i]? with
    | none => rw [q] at hd; cases hd
    | some o => rw [q] at hd; cases hd
  · rw [if_neg hi] at hd
    rw [if_neg hi]
    exact h.at_ i d hd
theorem RelE.set {i : Nat} {v : V} {d : D} (h : RelE K hid ρ H σ env) (r : Rep K hid ρ H v d) : RelE K hid ρ H (σ.set i (some v)) (env.set i (some d)) := by
  refine ⟨by rw [List.length_set, List.length_set]; exact h.len, fun j d' hd => ?_⟩
  by_cases hj : i = j
  · subst hj
    by_cases hl : i < env.length
    · rw [List.getElem?_set_self hl] at hd
      cases hd
      exact ⟨v, List.getElem?_set_self (by rw [h.len]; exact hl), r⟩
    · rw [List.getElem?_eq_none (by rw [List.length_set]; omega)] at hd; cases hd
  · rw [List.getElem?_set_ne hj] at hd
    rw [List.getElem?_set_ne hj]
    exact h.at_ j d' hd
theorem RelE.conv (e : Cv hid ρ H hid' ρ H) (h : RelE K hid ρ H σ env) : RelE K hid' ρ H σ env := ⟨h.len, fun i d hd => let ⟨v, q, r⟩ := h.at_ i d hd; ⟨v, q, Rep.conv e d r⟩⟩
end
/-! ### targets -/
/-- a target's slots -/
def Tg.slots : Tg → List Nat
  | .name i => [i]
  | .tup is => is
/-- the names' readings, one after the other -/
def gNames : List Nat → TGs
  | [] => gNil
  | i :: is => gCons (gName i) (gNames is)
def gOf (K : PySem.W.Frag) : Tg → TG
  | .name i => gName i
  | .tup is => gTup K is.length (gNames is)
section
variable {X : Cx} {hid : List Addr} {ρ : Rho} {H : Hp} {σ : L2.St} {env env' : MEnv}
theorem names_ok {Q : L2.St → Hp → Prop} {us : List Nat} : ∀ (is : List Nat) {xs : List V} {ds : List D} {σ : L2.St} {env : MEnv}, RepL X.K hid ρ H xs ds → ds.length = is.length → RelE X.K hid ρ H σ env → (∀ i ∈ is, i ∈ us) →
    (∀ σ2, RelE X.K hid ρ H σ2 ((is.zip ds).foldl (fun ρ p => ρ.set p.1 (some p.2)) env) → (∀ vs, (∀ i ∈ us, i ∈ vs) → wipe σ2 vs = wipe σ vs) → Q σ2 H) → gNames is xs σ H Q
  | [], xs, ds, σ, env, rl, hl, re, _, k => by
    cases ds with
    | nil => cases rl; exact ⟨rfl, k σ re fun _ _ => rfl⟩
    | cons _ _ => simp at hl
  | i :: is, xs, ds, σ, env, rl, hl, re, hu, k => by
    cases rl with
    | nil => simp at hl
    | @cons v vs d ds r rl =>
      refine ⟨v, vs, rfl, ?_⟩
      refine names_ok is rl (by simpa using hl) (re.set (i := i) r) (fun j hj => hu j (List.mem_cons_of_mem _ hj)) fun σ2 r2 w2 => k σ2 r2 fun ws hw => ?_
      rw [w2 ws hw, wipe_set (hw i (hu i List.mem_cons_self))]
theorem set_ok {t : Tg} {x : V} {d : D} {Q : L2.St → Hp → Prop} (r : Rep X.K hid ρ H x d) (re : RelE X.K hid ρ H σ env) (hs : setT t d env = some env')
    (k : ∀ σ2, RelE X.K hid ρ H σ2 env' → (∀ vs, (∀ i ∈ t.slots, i ∈ vs) → wipe σ2 vs = wipe σ vs) → Q σ2 H) : gOf X.K t x σ H Q := by
  cases t with
  | name i =>
    cases hs
    exact k _ (re.set r) fun vs hv => wipe_set (hv i (List.mem_singleton.mpr rfl))
  | tup is =>
    cases d with
    | tup ds =>
      have hs' : (if ds.length = is.length then some ((is.zip ds).foldl (fun ρ p => ρ.set p.1 (some p.2)) env) else none) = some env' := hs
      split at hs'
      · rename_i hl
        cases hs'
        cases r with
        | tup h1 h2 h3 h4 => exact ⟨_, _, rfl, SqT.of h1, by rw [h4.length]; exact hl, names_ok is h4 hl re (fun _ h => h) k⟩
      · cases hs'
    | _ => cases hs
end
end MI
namespace MI
open PySem PySem.Spec L2
section
variable {K : PySem.W.Frag} {mg : Str → Option Value} {hid hid' : List Addr} {ρ ρ0 ρ1 ρ' : Rho} {H H0 H1 H' : Hp} {S : Store} {Dd : Addr} {o : HO}
theorem Cv.off (x : Ext ρ0 H0 ρ H) (hD : H0 Dd = none) : Cv hid ρ0 H0 (Dd :: hid) ρ H := ⟨x.len, x.slot, fun b u h1 h2 h3 => by
  obtain ⟨q1, q2⟩ := x.keep b u h1 h2
  exact ⟨q1, q2, fun z => (List.mem_cons.mp z).elim (fun e => by rw [e, hD] at h1; cases h1) h3⟩⟩
theorem Ext.off (x : Ext ρ0 H0 ρ H) (hD : H0 Dd = none) : Ext ρ0 H0 ρ (upd H Dd o) := ⟨x.len, x.slot, fun b u h1 h2 => by
  obtain ⟨q1, q2⟩ := x.keep b u h1 h2
  exact ⟨by rw [upd_ne (ne_of_none h1 hD)]; exact q1, q2⟩, fun b q u h => by
  rw [upd_ne (ne_of_none h hD)]; exact x.frz b q u h⟩
/-- the heap without what stands at a -/
def without (H : Hp) (a : Addr) : Hp := fun b => if b = a then none else H b
theorem without_ne {a b : Addr} (h : b ≠ a) : without H a b = H b := if_neg h
theorem without_upd {a : Addr} (h : H a = some o) : upd (without H a) a o = H := by
  funext b
  unfold upd without
  by_cases e : b = a
  · rw [if_pos e, e, h]
  · rw [if_neg e, if_neg e]
theorem RelS.drop (R : RelS K (Dd :: hid) ρ H mg S) (hn : Dd ∉ hid) : RelS K hid ρ (without H Dd) mg S ∧ Cv (Dd :: hid) ρ H hid ρ (without H Dd) := by
  have hr := (R.hidd Dd List.mem_cons_self).2
  have cv : Cv (Dd :: hid) ρ H hid ρ (without H Dd) := ⟨Nat.le_refl _, fun _ _ => .inl rfl, fun b u h1 h2 h3 => ⟨by
    have hb : b ≠ Dd := fun z => h3 (by rw [z]; exact List.mem_cons_self)
    rw [without_ne hb]; exact h1, h2, fun z => h3 (List.mem_cons_of_mem _ z)⟩⟩
  refine ⟨⟨R.len, R.nd, fun n c e => ?_, fun a h => ?_⟩, cv⟩
  · rcases R.cells n c e with q | ⟨a, q, r⟩
    · exact .inl q
    · have hne : a ≠ Dd := fun z => hr (z ▸ List.mem_of_getElem? q)
      exact .inr ⟨a, q, r.imp (fun u h => by rw [without_ne hne]; exact h) (fun d v z => Rep.conv cv d z) fun ds v z => RepL.conv cv ds z⟩
  · obtain ⟨⟨u, e⟩, z⟩ := R.hidd a (List.mem_cons_of_mem _ h)
    have hne : a ≠ Dd := fun e => hn (e ▸ h)
    exact ⟨⟨u, by rw [without_ne hne]; exact e⟩, z⟩
/-- what is walked: the items, as they stand -/
structure WalkOf (K : PySem.W.Frag) (mg : Str → Option Value) (hid : List Addr) (ρ0 : Rho) (H0 : Hp) (J : It) (ds : List D) : Prop where
  go : ∀ i ρ H, Ext ρ0 H0 ρ H → i < ds.length → J.go i H
  yl : ∀ i hid' ρ H S x H', Ext ρ0 H0 ρ H → Cv hid ρ0 H0 hid' ρ H → RelS K hid' ρ H mg S → i < ds.length → J.yld i H x H' → Ext ρ H ρ H' ∧ RelS K hid' ρ H' mg S ∧ ∃ d, ds[i]? = some d ∧ Rep K hid' ρ H' x d
  stop : ∀ i ρ H, Ext ρ0 H0 ρ H → ds.length ≤ i → J.stop i H
/-- a walk over what stays at a -/
theorem walk_of_list {a : Addr} {xs : List V} {ds : List D} (st : ∀ ρ H, Ext ρ0 H0 ρ H → SqL K H a xs) (rl : RepL K hid ρ0 H0 xs ds) : WalkOf K mg hid ρ0 H0 (Itl K a) ds where
  go := fun i ρ H x hi => by
    have hi' : i < xs.length := by rw [rl.length]; exact hi
    exact ⟨xs, xs[i], st ρ H x, List.getElem?_eq_getElem hi'⟩
  yl := fun i hid' ρ H S v H' x cv r hi y => by
    obtain ⟨rfl, f⟩ := y
    obtain ⟨d, h1, h2⟩ := rl.getV (f xs (st ρ _ x))
    exact ⟨Ext.refl, r, d, h1, Rep.conv cv d h2⟩
  stop := fun i ρ H x hi => ⟨xs, st ρ H x, by rw [rl.length]; exact hi⟩
theorem walk_of_tup {a : Addr} {xs : List V} {ds : List D} (st : ∀ ρ H, Ext ρ0 H0 ρ H → SqT K H a xs) (rl : RepL K hid ρ0 H0 xs ds) : WalkOf K mg hid ρ0 H0 (Itt K a) ds where
  go := fun i ρ H x hi => by
    have hi' : i < xs.length := by rw [rl.length]; exact hi
    exact ⟨xs, xs[i], st ρ H x, List.getElem?_eq_getElem hi'⟩
  yl := fun i hid' ρ H S v H' x cv r hi y => by
    obtain ⟨rfl, f⟩ := y
    obtain ⟨d, h1, h2⟩ := rl.getV (f xs (st ρ _ x))
    exact ⟨Ext.refl, r, d, h1, Rep.conv cv d h2⟩
  stop := fun i ρ H x hi => ⟨xs, st ρ H x, by rw [rl.length]; exact hi⟩
theorem enumD_len (ds : List D) : (enumD ds).length = ds.length := by
  unfold enumD; rw [List.length_map, List.length_zip, List.length_range, Nat.min_self]
theorem enumD_get (ds : List D) (i : Nat) (d : D) (h : ds[i]? = some d) : (enumD ds)[i]? = some (.tup [.int (i : Nat), d]) := by
  obtain ⟨hi, e⟩ := List.getElem?_eq_some_iff.mp h
  unfold enumD
  have z : ((List.range ds.length).zip ds)[i]? = some (i, d) := List.getElem?_zip_eq_some.mpr ⟨by rw [List.getElem?_range hi], h⟩
  rw [List.getElem?_map, z]
  rfl
theorem walk_of_enum {a : Addr} {xs : List V} {ds : List D} (st : ∀ ρ H, Ext ρ0 H0 ρ H → SqL K H a xs) (rl : RepL K hid ρ0 H0 xs ds) : WalkOf K mg hid ρ0 H0 (Ite K a) (enumD ds) where
  go := fun i ρ H x hi => by
    rw [enumD_len] at hi
    have hi' : i < xs.length := by rw [rl.length]; exact hi
    exact ⟨xs, xs[i], st ρ H x, List.getElem?_eq_getElem hi'⟩
  yl := fun i hid' ρ H S v H' x cv r hi y => by
    obtain ⟨T, w, rfl, hT, rfl, f⟩ := y
    obtain ⟨d, h1, h2⟩ := rl.getV (f xs (st ρ _ x))
    have s := same_new (o := HO.tup [.int (i : Nat), w]) hT
    obtain ⟨f1, f2⟩ := r.fresh hT
    exact ⟨Ext.same s, r.same s, _, enumD_get ds i d h1, .tup upd_same f1 f2 (.cons (.int _) (.cons ((Rep.conv cv d h2).mono (Ext.same s)) .nil))⟩
  stop := fun i ρ H x hi => ⟨xs, st ρ H x, by rw [rl.length, ← enumD_len]; exact hi⟩
theorem walk_of_enumT {a : Addr} {xs : List V} {ds : List D} (st : ∀ ρ H, Ext ρ0 H0 ρ H → SqT K H a xs) (rl : RepL K hid ρ0 H0 xs ds) : WalkOf K mg hid ρ0 H0 (Itet K a) (enumD ds) where
  go := fun i ρ H x hi => by
    rw [enumD_len] at hi
    have hi' : i < xs.length := by rw [rl.length]; exact hi
    exact ⟨xs, xs[i], st ρ H x, List.getElem?_eq_getElem hi'⟩
  yl := fun i hid' ρ H S v H' x cv r hi y => by
    obtain ⟨T, w, rfl, hT, rfl, f⟩ := y
    obtain ⟨d, h1, h2⟩ := rl.getV (f xs (st ρ _ x))
    have s := same_new (o := HO.tup [.int (i : Nat), w]) hT
    obtain ⟨f1, f2⟩ := r.fresh hT
    exact ⟨Ext.same s, r.same s, _, enumD_get ds i d h1, .tup upd_same f1 f2 (.cons (.int _) (.cons ((Rep.conv cv d h2).mono (Ext.same s)) .nil))⟩
  stop := fun i ρ H x hi => ⟨xs, st ρ H x, by rw [rl.length, ← enumD_len]; exact hi⟩
theorem rangeD_len (lo hi : Int) : (rangeD lo hi).length = (hi - lo).toNat := by unfold rangeD; rw [List.length_map, List.length_range]
theorem walk_of_range {lo hi : Int} : WalkOf K mg hid ρ0 H0 (Itr lo (hi - lo).toNat) (rangeD lo hi) where
  go := fun i ρ H x h => by rw [rangeD_len] at h; exact h
  yl := fun i hid' ρ H S v H' x cv r h y => by
    obtain ⟨rfl, rfl⟩ := y
    rw [rangeD_len] at h
    refine ⟨Ext.refl, r, .int (lo + (i : Nat)), ?_, .int _⟩
    unfold rangeD
    rw [List.getElem?_map, List.getElem?_range h]; rfl
  stop := fun i ρ H x h => by rw [rangeD_len] at h; exact h
theorem rangeC_len (lo c : Int) (n : Nat) : (rangeC lo c n).length = n := by unfold rangeC; rw [List.length_map, List.length_range]
theorem walk_of_rangeC {lo c : Int} {n : Nat} : WalkOf K mg hid ρ0 H0 (Itc lo c n) (rangeC lo c n) where
  go := fun i ρ H x h => by rw [rangeC_len] at h; exact h
  yl := fun i hid' ρ H S v H' x cv r h y => by
    obtain ⟨rfl, rfl⟩ := y
    rw [rangeC_len] at h
    refine ⟨Ext.refl, r, .int (lo + (i : Nat) * c), ?_, .int _⟩
    unfold rangeC
    rw [List.getElem?_map, List.getElem?_range h]; rfl
  stop := fun i ρ H x h => by rw [rangeC_len] at h; exact h
theorem walk_of_text {z : Str} : WalkOf K mg hid ρ0 H0 (Its z) (z.cps.toList.map fun c => .str ⟨#[c]⟩) where
  go := fun i ρ H x h => by
    rw [List.length_map] at h
    show i < z.cps.size
    simpa using h
  yl := fun i hid' ρ H S v H' x cv r h y => by
    obtain ⟨rfl, c, hc, rfl⟩ := y
    exact ⟨Ext.refl, r, .str ⟨#[c]⟩, by rw [List.getElem?_map]; simp [hc], .str _⟩
  stop := fun i ρ H x h => by
    rw [List.length_map] at h
    show z.cps.size ≤ i
    simpa using h
theorem RelS.tup_free {b : Addr} {xs : List V} (R : RelS K hid ρ H mg S) (h : H b = some (.tup xs)) : some b ∉ ρ ∧ b ∉ hid := by
  refine ⟨fun z => ?_, fun z => ?_⟩
  · obtain ⟨n, hn, e⟩ := List.getElem_of_mem z
    have e' : ρ[n]? = some (some b) := by rw [List.getElem?_eq_getElem hn, e]
    have hs : n < S.length := by rw [← R.len]; exact hn
    rcases R.cells n _ (List.getElem?_eq_getElem hs) with ⟨_, q⟩ | ⟨c, q, rc⟩
    · rw [e'] at q; cases q
    · rw [e'] at q; cases q
      generalize S[n] = cc at rc
      cases cc with
      | dead => cases rc
      | lst ds => obtain ⟨l, xs, e, r⟩ := rc; rw [h] at e; cases e
      | lkl ds => obtain ⟨l, xs, o, e, r⟩ := rc; rw [h] at e; cases e
      | dK ds => obtain ⟨l, xs, e, r⟩ := rc; rw [h] at e; cases e
      | dT ds => obtain ⟨l, xs, e, r⟩ := rc; rw [h] at e; cases e
      | lkd ds => obtain ⟨l, xs, o, e, r⟩ := rc; rw [h] at e; cases e
      | lkt ds => obtain ⟨l, xs, o, e, r⟩ := rc; rw [h] at e; cases e
      | ins c fs => obtain ⟨l, C, dx, gs, e, m, r⟩ := rc; rw [h] at e; cases e
  · obtain ⟨⟨⟨o, ho⟩, e⟩, _⟩ := R.hidd b z
    rw [h] at e
    cases e
    cases ho
theorem rep_kD (k : Key) : Rep K hid ρ H (kV k) (kD k) := by
  cases k with
  | inl i => exact .int i
  | inr s => exact .str s
theorem repL_kD : ∀ ks : List Key, RepL K hid ρ H (ks.map kV) (ks.map kD)
  | [] => .nil
  | k :: ks => .cons (rep_kD k) (repL_kD ks)
theorem walk_of_keysT {a : Addr} {ob : Obj} {ks : List (List Key × V)} {kvs : List (List Key × D)} (st : H0 a = some (.frz ob (.dT ks))) (rl : RepKV K hid ρ0 H0 ks kvs) : WalkOf K mg hid ρ0 H0 (Itkt a ob ks) (kvs.map fun kv => .tup (kv.1.map kD)) where
  go := fun i ρ H x h => ⟨x.frz _ _ _ st, by rw [List.length_map] at h; rw [kv_len rl]; exact h⟩
  yl := fun i hid' ρ H S v H' x cv r h y => by
    obtain ⟨rfl, k, w, q, hk, rfl, hq⟩ := y
    have key : ∀ (ks : List (List Key × V)) (kvs : List (List Key × D)) (i : Nat) (k : List Key) (w : V), RepKV K hid ρ0 H0 ks kvs → ks[i]? = some (k, w) → ∃ d, kvs[i]? = some (k, d) := fun ks kvs i k w rl => by
      induction rl generalizing i with
      | nil => intro e; simp at e
      | @cons p q l1 l2 hd t ih =>
        cases i with
        | zero => intro e; simp at e; subst e; exact ⟨q.2, by simp only [List.getElem?_cons_zero, Option.some.injEq]; exact Prod.ext hd.1.symm rfl⟩
        | succ i => intro e; simp at e; obtain ⟨d, hd⟩ := ih i e; exact ⟨d, by simpa using hd⟩
    obtain ⟨d, hd⟩ := key ks kvs i k w rl hk
    obtain ⟨f1, f2⟩ := r.tup_free hq
    exact ⟨Ext.refl, r, .tup (k.map kD), by rw [List.getElem?_map, hd]; rfl, .tup hq f1 f2 (repL_kD k)⟩
  stop := fun i ρ H x h => ⟨x.frz _ _ _ st, by rw [List.length_map] at h; rw [kv_len rl]; exact h⟩
theorem walk_of_keys {a : Addr} {ob : Obj} {ks : List (Key × V)} {kvs : List (Key × D)} (st : H0 a = some (.frz ob (.dK ks))) (rl : RepKV K hid ρ0 H0 ks kvs) : WalkOf K mg hid ρ0 H0 (Itk a ob ks) (kvs.map fun kv => kD kv.1) where
  go := fun i ρ H x h => ⟨x.frz _ _ _ st, by rw [List.length_map] at h; rw [kv_len rl]; exact h⟩
  yl := fun i hid' ρ H S v H' x cv r h y => by
    obtain ⟨rfl, k, w, hk, rfl⟩ := y
    have key : ∀ (ks : List (Key × V)) (kvs : List (Key × D)) (i : Nat) (k : Key) (w : V), RepKV K hid ρ0 H0 ks kvs → ks[i]? = some (k, w) → ∃ d, kvs[i]? = some (k, d) := fun ks kvs i k w rl => by
      induction rl generalizing i with
      | nil => intro e; simp at e
      | @cons p q l1 l2 hd t ih =>
        cases i with
        | zero => intro e; simp at e; subst e; exact ⟨q.2, by simp only [List.getElem?_cons_zero, Option.some.injEq]; exact Prod.ext hd.1.symm rfl⟩
        | succ i => intro e; simp at e; obtain ⟨d, hd⟩ := ih i e; exact ⟨d, by simpa using hd⟩
    obtain ⟨d, hd⟩ := key ks kvs i k w rl hk
    refine ⟨Ext.refl, r, kD k, by rw [List.getElem?_map, hd]; rfl, ?_⟩
    cases k with
    | inl j => exact .int j
    | inr z => exact .str z
  stop := fun i ρ H x h => ⟨x.frz _ _ _ st, by rw [List.length_map] at h; rw [kv_len rl]; exact h⟩
end
section
variable {X : Cx} {W : WX} {σ : L2.St} {H : Hp} {c a b : CE} {cs : CEs} {e tg ea eb ec : PySem.Expr} {es : List PySem.Expr} {p pos : Pos}
def tI (X : Cx) (W : WX) (it : CI) : TI := fun σ H R => Go X W σ H (evI it) fun hid ρ' H' ds _ => ∀ J, WalkOf X.K X.mg hid ρ' H' J ds → R J H'
theorem PI.imp {t t' : TI} (h : PI X tg e t) (w : ∀ σ H R, t' σ H R → t σ H R) : PI X tg e t' := ⟨fun pins s σ H R I hw => h.run pins s σ H R I (w σ H R hw)⟩
theorem PI.or {t t' : TI} (h : PI X tg e t) (h' : PI X tg e t') : PI X tg e fun σ H R => t σ H R ∨ t' σ H R := ⟨fun pins s σ H R I hw => hw.elim (fun q => h.run pins s σ H R I q) fun q => h'.run pins s σ H R I q⟩
theorem kT_sq {K : PySem.W.Frag} {a : Addr} {xs : List V} (h : SqT K noH a xs) (H : Hp) : SqT K H a xs := by
  rcases h with q | q
  · rcases q with q | ⟨_, q⟩ <;> cases q
  · exact .inr q
theorem i_seq (ha : PE X e (tE X W c)) : PI X tg e (tI X W (.seq c)) := by
  refine PI.imp (PI.or (pi_list ha) (pi_tup ha)) fun σ H R h => ?_
  obtain ⟨hid, ρ, env, S, r, re, p⟩ := h
  have p' : Post X.K X.mg hid ρ H ((ev c env S).bind fun x S => Rs.of (iterD x) S) (fun ρ' H' ds _ => ∀ J, WalkOf X.K X.mg hid ρ' H' J ds → R J H') (fun cls d H' => W cls d σ H') := p
  cases q : ev c env S with
  | ok d S1 =>
    rw [q] at p'
    have p2 : Post X.K X.mg hid ρ H (Rs.of (iterD d) S1) (fun ρ' H' ds _ => ∀ J, WalkOf X.K X.mg hid ρ' H' J ds → R J H') (fun cls d H' => W cls d σ H') := p'
    obtain ⟨ds, hd, k⟩ := p2.of
    cases d with
    | lst es =>
      cases hd
      refine .inl ⟨hid, ρ, env, S, r, re, ?_⟩
      rw [q]
      intro ρ1 H1 e1 r1 v rv
      cases rv with
      | lst h1 h2 h3 h4 => exact ⟨_, rfl, ⟨_, SqL.of h1⟩, k ρ1 H1 e1 r1 _ (walk_of_list (fun ρ' H' x => SqL.of (x.keep _ _ h1 h2).1) h4)⟩
    | tup es =>
      cases hd
      refine .inr ⟨hid, ρ, env, S, r, re, ?_⟩
      rw [q]
      intro ρ1 H1 e1 r1 v rv
      cases rv with
      | tup h1 h2 h3 h4 => exact ⟨_, rfl, ⟨_, SqT.of h1⟩, k ρ1 H1 e1 r1 _ (walk_of_tup (fun ρ' H' x => SqT.of (x.keep _ _ h1 h2).1) h4)⟩
    | con es =>
      cases hd
      refine .inr ⟨hid, ρ, env, S, r, re, ?_⟩
      rw [q]
      intro ρ1 H1 e1 r1 v rv
      cases rv with
      | con h1 h4 => exact ⟨_, rfl, ⟨_, kT_sq h1 _⟩, k ρ1 H1 e1 r1 _ (walk_of_tup (fun ρ' H' x => kT_sq h1 _) h4)⟩
    | _ => cases hd
  | ex cc fs S1 =>
    refine .inl ⟨hid, ρ, env, S, r, re, ?_⟩
    rw [q] at p' ⊢
    exact p'
  | stuck => rw [q] at p'; exact p'.elim
theorem i_rng1 (hg : Gl X "range") (hm : X.mg "range" = none) (ha : PE X ea (tE X W a)) (hs : isStar ea = false) : PI X tg (.Call (.Name "range" p) [ea] [] pos) (tI X W (.rng1 a)) := by
  have st := star_cons hs [] X.env
  refine PI.imp (pi_range1 hg hm (pa_cons ha pa_nil st) st) fun σ H R h => ?_
  have h' : Go X W σ H (fun env S => (ev a env S).bind fun x S => (match x with | D.int j => if small62 j then Rs.ok (rangeD 0 j) S else Rs.stuck | _ => Rs.stuck)) (fun hid ρ' H' ds _ => ∀ J, WalkOf X.K X.mg hid ρ' H' J ds → R J H') := h
  refine h'.bind fun hid ρ1 H1 x S1 env r1 e1 p1 v rv => ?_
  split at p1
  · rename_i j
    split at p1
    · rename_i hj
      cases rv
      have hj' : -(2 ^ 60) ≤ j ∧ j < 2 ^ 60 := of_decide_eq_true hj
      refine ⟨j, rfl, by omega, by omega, ?_⟩
      have := p1.here r1 _ walk_of_range
      simpa using this
    · exact p1.elim
  · exact p1.elim
theorem i_rng2 (hg : Gl X "range") (hm : X.mg "range" = none) (ha : PE X ea (tE X W a)) (hb : PE X eb (tE X W b)) (hs : isStar ea = false) (hs2 : isStar eb = false) : PI X tg (.Call (.Name "range" p) [ea, eb] [] pos) (tI X W (.rng2 a b)) := by
  have st := star_cons hs [eb] X.env
  have st2 := star_cons hs2 [] X.env
  refine PI.imp (pi_range2 hg hm (pa_cons ha (pa_cons hb pa_nil st2) st) (by rw [st, st2]; rfl) st2) fun σ H R h => ?_
  have h' : Go X W σ H (fun env S => (ev a env S).bind fun x S => (ev b env S).bind fun y S => (match x, y with | D.int i, D.int j => if small62 i && small62 j then Rs.ok (rangeD i j) S else Rs.stuck | _, _ => Rs.stuck)) (fun hid ρ' H' ds _ => ∀ J, WalkOf X.K X.mg hid ρ' H' J ds → R J H') := h
  refine h'.bind fun hid ρ1 H1 x S1 env r1 e1 p1 v rv => ?_
  refine ⟨hid, ρ1, env, S1, r1, e1, p1.bind fun ρ2 H2 y S2 ex2 r2 p2 w rw' => ?_⟩
  split at p2
  · rename_i i j
    split at p2
    · rename_i hj
      cases rv; cases rw'
      rw [Bool.and_eq_true] at hj
      have h1 : -(2 ^ 60) ≤ i ∧ i < 2 ^ 60 := of_decide_eq_true hj.1
      have h2 : -(2 ^ 60) ≤ j ∧ j < 2 ^ 60 := of_decide_eq_true hj.2
      exact ⟨i, j, rfl, ⟨by omega, by omega, by omega, by omega⟩, p2.here r2 _ walk_of_range⟩
    · exact p2.elim
  · exact p2.elim
theorem i_rng3 (hg : Gl X "range") (hm : X.mg "range" = none) (ha : PE X ea (tE X W a)) (hb : PE X eb (tE X W b)) (hc : PE X ec (tE X W c)) (hs : isStar ea = false) (hs2 : isStar eb = false) (hs3 : isStar ec = false) :
    PI X tg (.Call (.Name "range" p) [ea, eb, ec] [] pos) (tI X W (.rng3 a b c)) := by
  have st := star_cons hs [eb, ec] X.env
  have st2 := star_cons hs2 [ec] X.env
  have st3 := star_cons hs3 [] X.env
  refine PI.imp (pi_range3 hg hm (pa_cons ha (pa_cons hb (pa_cons hc pa_nil st3) st2) st) st (by rw [st2, st3]; rfl)) fun σ H R h => ?_
  have h' : Go X W σ H (fun env S => (ev a env S).bind fun x S => (ev b env S).bind fun y S => (ev c env S).bind fun z S => rngD3 x y z S) (fun hid ρ' H' ds _ => ∀ J, WalkOf X.K X.mg hid ρ' H' J ds → R J H') := h
  refine h'.bind fun hid ρ1 H1 x S1 env r1 e1 p1 v rv => ?_
  refine ⟨hid, ρ1, env, S1, r1, e1, p1.bind fun ρ2 H2 y S2 ex2 r2 p2 w rw' => ?_⟩
  refine ⟨hid, ρ2, env, S2, r2, e1.mono ex2, p2.bind fun ρ3 H3 z S3 ex3 r3 p3 u ru => ?_⟩
  unfold rngD3 at p3
  split at p3
  · rename_i i j k
    split at p3
    · rename_i hj
      cases rv; cases rw'; cases ru
      obtain ⟨h1, h2, h3, h4⟩ := of_decide_eq_true hj
      exact ⟨i, j, k, _, rfl, ⟨h1, h2, h3, by omega⟩, p3.here r3 _ walk_of_rangeC⟩
    · exact p3.elim
  · exact p3.elim
theorem i_enum {elts : List PySem.Expr} {kk : Nat} {tpos : Pos} (hg : Gl X "enumerate") (hm : X.mg "enumerate" = none) (ha : PE X ea (tE X W a)) (hs : isStar ea = false) :
    PI X (.Tuple elts kk tpos) (.Call (.Name "enumerate" p) [ea] [] pos) (tI X W (.enum a)) := by
  have st := star_cons hs [] X.env
  refine PI.imp (PI.or (pi_enum hg hm (pa_cons ha pa_nil st) st) (pi_enumT hg hm (pa_cons ha pa_nil st) st)) fun σ H R h => ?_
  obtain ⟨hid, ρ, env, S, r, re, p⟩ := h
  have p' : Post X.K X.mg hid ρ H ((ev a env S).bind fun x S => Rs.of ((iterL x).map enumD) S) (fun ρ' H' ds _ => ∀ J, WalkOf X.K X.mg hid ρ' H' J ds → R J H') (fun cls d H' => W cls d σ H') := p
  cases q : ev a env S with
  | ok d S1 =>
    rw [q] at p'
    have p2 : Post X.K X.mg hid ρ H (Rs.of ((iterL d).map enumD) S1) (fun ρ' H' ds _ => ∀ J, WalkOf X.K X.mg hid ρ' H' J ds → R J H') (fun cls d H' => W cls d σ H') := p'
    obtain ⟨ds, hd, k⟩ := p2.of
    obtain ⟨es', he, rfl⟩ := Option.map_eq_some_iff.mp hd
    cases d with
    | lst es =>
      cases he
      refine .inl ⟨hid, ρ, env, S, r, re, ?_⟩
      rw [q]
      intro ρ1 H1 e1 r1 v rv
      cases rv with
      | lst h1 h2 h3 h4 => exact ⟨_, _, rfl, SqL.of h1, k ρ1 H1 e1 r1 _ (walk_of_enum (fun ρ' H' x => SqL.of (x.keep _ _ h1 h2).1) h4)⟩
    | tup es =>
      cases he
      refine .inr ⟨hid, ρ, env, S, r, re, ?_⟩
      rw [q]
      intro ρ1 H1 e1 r1 v rv
      cases rv with
      | tup h1 h2 h3 h4 => exact ⟨_, _, rfl, SqT.of h1, k ρ1 H1 e1 r1 _ (walk_of_enumT (fun ρ' H' x => SqT.of (x.keep _ _ h1 h2).1) h4)⟩
    | _ => cases he
  | ex cc fs S1 =>
    rw [q] at p'
    exact .inl ⟨hid, ρ, env, S, r, re, by rw [q]; exact p'⟩
  | stuck => rw [q] at p'; exact p'.elim
theorem i_text (ha : PE X ea (tE X W a)) : PI X tg ea (tI X W (.text a)) := by
  refine PI.imp (pi_str ha) fun σ H R h => ?_
  have h' : Go X W σ H (fun env S => (ev a env S).bind fun x S => (match x with | D.str z => Rs.ok (z.cps.toList.map fun c => D.str ⟨#[c]⟩) S | _ => Rs.stuck)) (fun hid ρ' H' ds _ => ∀ J, WalkOf X.K X.mg hid ρ' H' J ds → R J H') := h
  refine h'.bind fun hid ρ1 H1 x S1 env r1 e1 p1 v rv => ?_
  split at p1
  · cases rv
    exact ⟨_, rfl, p1.here r1 _ walk_of_text⟩
  · exact p1.elim
theorem i_cellE (ha : PE X e (tE X W c)) : PI X tg e (tI X W (.cellE c)) := by
  refine PI.imp (pi_list ha) fun σ H R h => ?_
  have h' : Go X W σ H (fun env S => (ev c env S).bind fun x S => Rs.of (iterCL x S) S) (fun hid ρ' H' ds _ => ∀ J, WalkOf X.K X.mg hid ρ' H' J ds → R J H') := h
  refine h'.bind fun hid ρ1 H1 x S1 env r1 e1 p1 v rv => ?_
  obtain ⟨ds, hd, k⟩ := p1.of
  unfold iterCL at hd
  split at hd
  · split at hd
    · rename_i q2
      cases hd
      obtain ⟨a, ha, _, xs, o, hx, rl⟩ := r1.at_ q2 (by simp)
      have ev := rv.ptr_ref ha
      subst ev
      exact ⟨a, rfl, ⟨xs, .inl (.inr ⟨o, hx⟩)⟩, k _ _ Ext.refl r1 _ (walk_of_list (fun ρ' H' x => .inl (.inr ⟨o, x.frz _ _ _ hx⟩)) rl)⟩
    · cases hd
  · cases hd
theorem i_cell {i : Nat} {x : Str} (hN : X.N[i]? = some x) (hv : Vis X.env.scope x) (hd : (x == ("__debug__" : Str)) = false) (hcd : (x == ("__classdict__" : Str)) = false) : PI X tg (.Name x pos) (tI X W (.cell i)) := by
  have pv := pe_var (pos := pos) hN hv hd hcd
  refine PI.imp (PI.or (pi_list pv) (pi_keys pv)) fun σ H R h => ?_
  obtain ⟨hid, ρ, env, S, r, re, p⟩ := h
  have p' : Post X.K X.mg hid ρ H (match env[i]? with | some (some d) => Rs.of (iterC d S) S | _ => Rs.stuck) (fun ρ' H' ds _ => ∀ J, WalkOf X.K X.mg hid ρ' H' J ds → R J H') (fun cls d H' => W cls d σ H') := p
  split at p'
  · rename_i d q
    obtain ⟨ds, hd, k⟩ := p'.of
    obtain ⟨v, h1, h2⟩ := re.at_ i d q
    unfold iterC at hd
    split at hd
    · split at hd
      · rename_i q2
        cases hd
        obtain ⟨a, ha, _, xs, o, hx, rl⟩ := r.at_ q2 (by simp)
        have ev := h2.ptr_ref ha
        subst ev
        exact .inl ⟨_, h1, a, rfl, ⟨xs, .inl (.inr ⟨o, hx⟩)⟩, k _ _ Ext.refl r _ (walk_of_list (fun ρ' H' x => .inl (.inr ⟨o, x.frz _ _ _ hx⟩)) rl)⟩
      · rename_i q2
        cases hd
        obtain ⟨a, ha, _, ks, o, hx, rl⟩ := r.at_ q2 (by simp)
        have ev := h2.ptr_ref ha
        subst ev
        exact .inr ⟨_, h1, a, o, rfl, .inl ⟨ks, hx, k _ _ Ext.refl r _ (walk_of_keys hx rl)⟩⟩
      · rename_i q2
        cases hd
        obtain ⟨a, ha, _, ks, o, hx, rl⟩ := r.at_ q2 (by simp)
        have ev := h2.ptr_ref ha
        subst ev
        exact .inr ⟨_, h1, a, o, rfl, .inr ⟨ks, hx, k _ _ Ext.refl r _ (walk_of_keysT hx rl)⟩⟩
      · cases hd
    · cases hd
  · exact p'.elim
end
end MI
namespace MI
open PySem PySem.Spec L2
/-! ### list comprehensions -/
/-- nothing is let out -/
abbrev W0 : WX := fun _ _ _ _ => False
theorem bind_assoc {α β γ : Type} (r : Rs α) (f : α → Store → Rs β) (g : β → Store → Rs γ) : (r.bind f).bind g = r.bind fun a S => (f a S).bind g := by cases r <;> rfl
/-- one turn -/
def turnC (t : Tg) (vs : List Nat) (c : CO) (e : CE) (ρ : MEnv) (d : D) (S : Store) : Rs (Option D) :=
  match setT t d (wipeE ρ vs) with
  | some ρ1 => ((evO c ρ1 S).bind fun b S => (match b with
    | some (.bl false) => .ok none S
    | some (.bl true) => (ev e ρ1 S).bind fun x S => .ok (some x) S
    | some _ => .stuck
    | none => (ev e ρ1 S).bind fun x S => .ok (some x) S)).nox
  | none => .stuck
def Noex {α : Type} (r : Rs α) : Prop := match r with | .ex _ _ _ => False | _ => True
theorem noex_nox {α : Type} (r : Rs α) : Noex r.nox := by cases r <;> trivial
theorem turnC_noex {t vs c e ρ d S} : Noex (turnC t vs c e ρ d S) := by
  unfold turnC
  split
  · exact noex_nox _
  · trivial
theorem compL_noex {f : D → Store → Rs (Option D)} (hf : ∀ d S, Noex (f d S)) : ∀ (ds acc : List D) (S : Store), Noex (compL f ds acc S)
  | [], _, _ => trivial
  | d :: ds, acc, S => by
    unfold compL
    have h := hf d S
    cases q : f d S with
    | ok o S1 =>
      show Noex (match o with | some y => if acc.length < 1000000 then compL f ds (acc ++ [y]) S1 else .stuck | none => compL f ds acc S1)
      cases o with
      | none => exact compL_noex hf ds acc S1
      | some y =>
        show Noex (if acc.length < 1000000 then compL f ds (acc ++ [y]) S1 else .stuck)
        split
        · exact compL_noex hf ds _ S1
        · trivial
    | ex c fs S1 => rw [q] at h; exact h.elim
    | stuck => trivial
section
variable {K : PySem.W.Frag} {mg : Str → Option Value} {hid : List Addr} {ρ ρ0 : Rho} {H H0 : Hp} {S : Store} {α β γ : Type} {r : Rs α} {f : α → Store → Rs β} {k : β → Store → Rs γ}
/-- the first part of a turn that lets nothing out -/
theorem Post.noxb {Q : Rho → Hp → γ → Store → Prop} {Q1 : Rho → Hp → α → Store → Prop} {W W' : Value → Option Addr → Hp → Prop} (h : Post K mg hid ρ0 H0 (((r.bind f).nox).bind k) Q W)
    (kk : ∀ ρ1 H1 a S1, Ext ρ H ρ1 H1 → RelS K hid ρ1 H1 mg S1 → Post K mg hid ρ0 H0 (((f a S1).nox).bind k) Q W → Q1 ρ1 H1 a S1) : Post K mg hid ρ H r Q1 W' := by
  cases r with
  | ok a S1 => exact fun ρ1 H1 e1 r1 => kk ρ1 H1 a S1 e1 r1 h
  | ex c fs S1 => exact h.elim
  | stuck => exact h.elim
end
section
variable {X : Cx} {W : WX} {σ : L2.St} {H : Hp} {c a b ce : CE} {cs : CEs} {e tg ea eb ec : PySem.Expr} {es : List PySem.Expr} {p pos : Pos}
/-- the comprehension, nothing to be locked -/
def evC (own : List (Str × Nat)) (t : Tg) (it : CI) (c : CO) (e : CE) (ρ : MEnv) (S : Store) : Rs (List D) := (evI it ρ S).bind fun items S1 => compL (turnC t (own.map (·.2)) c e ρ) items [] S1
def tLu (X : Cx) (W : WX) (own : List (Str × Nat)) (t : Tg) (it : CI) (c : CO) (e : CE) : TE := fun σ H Q => Go X W σ H (evC own t it c e) fun hid ρ H' ds _ => ∀ xs p, RepL X.K hid ρ H' xs ds → H' p = none → Q (.ref p) (upd H' p (.lst xs))
/-- the tests' reading -/
def tCt (X : Cx) : CO → TT
  | .none => tYes
  | .some c => tT X W0 c
theorem lc_read {own : List (Str × Nat)} {t : Tg} {it : CI} {co : CO} (hsl : ∀ i ∈ t.slots, i ∈ own.map (·.2)) {Q : VK} (h : tLu X W own t it co ce σ H Q) :
    tLc (tI X W it) (gOf X.K t) (tCt X co) (tE X W0 ce) (own.map (·.2)) σ H Q := by
  generalize hvs : own.map (·.2) = vs at hsl ⊢
  have h' : Go X W σ H (fun env S => (evI it env S).bind fun items S1 => compL (turnC t (own.map (·.2)) co ce env) items [] S1) (fun hid ρ H' ds _ => ∀ xs p, RepL X.K hid ρ H' xs ds → H' p = none → Q (.ref p) (upd H' p (.lst xs))) := h
  rw [hvs] at h'
  refine h'.bind fun hid ρ1 H1 items S1 env r1 e1 p1 J wk Dd hD => ?_
  obtain ⟨f1, f2⟩ := r1.fresh hD
  obtain ⟨x1, r1'⟩ := r1.hide (o := .lst []) hD
  have P0 : Post X.K X.mg (Dd :: hid) ρ1 H1 (compL (turnC t vs co ce env) items [] S1) (fun ρ' H' ds _ => ∀ acc, H' Dd = some (.lst acc) → RepL X.K (Dd :: hid) ρ' H' acc ds → Q (.ref Dd) H') (fun _ _ _ => False) := by
    have ne := compL_noex (f := turnC t vs co ce env) (fun _ _ => turnC_noex) items [] S1
    cases q : compL (turnC t vs co ce env) items [] S1 with
    | ok ds S2 =>
      rw [q] at p1
      intro ρ' H' x' r' acc ha rl
      obtain ⟨d1, d2⟩ := r'.drop f2
      have x2 : Ext ρ1 H1 ρ' (without H' Dd) := ⟨x'.len, x'.slot, fun b u h1 h2 => by
        obtain ⟨q1, q2⟩ := x'.keep b u h1 h2
        exact ⟨by rw [without_ne (ne_of_none h1 hD)]; exact q1, q2⟩, fun b q u h => by rw [without_ne (ne_of_none h hD)]; exact x'.frz b q u h⟩
      have := p1 ρ' (without H' Dd) x2 d1 acc Dd (RepL.conv d2 ds rl) (if_pos rfl)
      rwa [without_upd ha] at this
    | ex cc fs S2 => rw [q] at ne; exact ne.elim
    | stuck => rw [q] at p1; exact p1.elim
  refine ⟨fun i m H2 => m = items.length - i ∧ i ≤ items.length ∧ ∃ ρi Si acc ds, Ext ρ1 H1 ρi H2 ∧ RelS X.K (Dd :: hid) ρi H2 X.mg Si ∧ H2 Dd = some (.lst acc) ∧ RepL X.K (Dd :: hid) ρi H2 acc ds ∧
      Post X.K X.mg (Dd :: hid) ρ1 H1 (compL (turnC t vs co ce env) (items.drop i) ds Si) (fun ρ' H' ds _ => ∀ acc, H' Dd = some (.lst acc) → RepL X.K (Dd :: hid) ρ' H' acc ds → Q (.ref Dd) H') (fun _ _ _ => False),
    ⟨_, rfl, Nat.zero_le _, ρ1, S1, [], [], x1, r1', upd_same, .nil, P0⟩, ?_⟩
  rintro i m H2 ⟨rfl, hi, ρi, Si, acc, ds, xi, ri, hDi, rl, pi⟩
  by_cases hlt : i < items.length
  · refine .inr ⟨wk.go i ρi H2 xi hlt, fun H' => i + 1 ≤ items.length ∧ ∃ ρi Si acc ds, Ext ρ1 H1 ρi H' ∧ RelS X.K (Dd :: hid) ρi H' X.mg Si ∧ H' Dd = some (.lst acc) ∧ RepL X.K (Dd :: hid) ρi H' acc ds ∧
      Post X.K X.mg (Dd :: hid) ρ1 H1 (compL (turnC t vs co ce env) (items.drop (i + 1)) ds Si) (fun ρ' H' ds _ => ∀ acc, H' Dd = some (.lst acc) → RepL X.K (Dd :: hid) ρ' H' acc ds → Q (.ref Dd) H') (fun _ _ _ => False),
      fun H' n => ⟨items.length - (i + 1), by omega, rfl, n.1, n.2⟩, fun x H3 y => ?_⟩
    obtain ⟨x3, r3, d, hd, rx⟩ := wk.yl i (Dd :: hid) ρi H2 Si x H3 xi (Cv.off xi hD) ri hlt y
    have hdrop : items.drop i = d :: items.drop (i + 1) := by
      rw [List.drop_eq_getElem_cons hlt]
      have : items[i]? = some items[i] := List.getElem?_eq_getElem hlt
      rw [this] at hd
      cases hd
      rfl
    rw [hdrop] at pi
    have pi' : Post X.K X.mg (Dd :: hid) ρ1 H1 ((turnC t vs co ce env d Si).bind fun o S1 => (match o with
      | some y => if ds.length < 1000000 then compL (turnC t vs co ce env) (items.drop (i + 1)) (ds ++ [y]) S1 else .stuck
      | none => compL (turnC t vs co ce env) (items.drop (i + 1)) ds S1)) (fun ρ' H' ds _ => ∀ acc, H' Dd = some (.lst acc) → RepL X.K (Dd :: hid) ρ' H' acc ds → Q (.ref Dd) H') (fun _ _ _ => False) := pi
    have nD : some Dd ∉ ρi := (ri.hidd Dd List.mem_cons_self).2
    -- behind the element
    have last : ∀ {ρ4 : Rho} {H4 : Hp} {S4 : Store} {y : D} {v : V}, Ext ρi H3 ρ4 H4 → RelS X.K (Dd :: hid) ρ4 H4 X.mg S4 →
        Post X.K X.mg (Dd :: hid) ρ1 H1 (if ds.length < 1000000 then compL (turnC t vs co ce env) (items.drop (i + 1)) (ds ++ [y]) S4 else .stuck) (fun ρ' H' ds _ => ∀ acc, H' Dd = some (.lst acc) → RepL X.K (Dd :: hid) ρ' H' acc ds → Q (.ref Dd) H') (fun _ _ _ => False) →
        Rep X.K (Dd :: hid) ρ4 H4 v y → ∃ acc, H4 Dd = some (.lst acc) ∧ acc.length < sizeLine ∧ (i + 1 ≤ items.length ∧ ∃ ρi Si acc' ds, Ext ρ1 H1 ρi (upd H4 Dd (.lst (acc ++ [v]))) ∧ RelS X.K (Dd :: hid) ρi (upd H4 Dd (.lst (acc ++ [v]))) X.mg Si ∧ (upd H4 Dd (.lst (acc ++ [v]))) Dd = some (.lst acc') ∧ RepL X.K (Dd :: hid) ρi (upd H4 Dd (.lst (acc ++ [v]))) acc' ds ∧
          Post X.K X.mg (Dd :: hid) ρ1 H1 (compL (turnC t vs co ce env) (items.drop (i + 1)) ds Si) (fun ρ' H' ds _ => ∀ acc, H' Dd = some (.lst acc) → RepL X.K (Dd :: hid) ρ' H' acc ds → Q (.ref Dd) H') (fun _ _ _ => False)) := fun {ρ4 H4 S4 y v} x4 r4 p4 rv => by
      split at p4
      · rename_i hz
        have hx := x3.trans x4
        refine ⟨acc, (hx.keep _ _ hDi nD).1, lt_line (by rw [rl.length]; exact hz), hlt, ρ4, S4, acc ++ [v], ds ++ [y], Ext.off (xi.trans hx) hD, r4.turn, upd_same, ?_, p4⟩
        exact (RepL.conv Cv.turn _ (rl.mono hx)).append (.cons (Rep.conv Cv.turn _ rv) .nil)
      · exact p4.elim
    unfold turnC at pi'
    split at pi'
    · rename_i env2 hset
      have re2 : RelE X.K (Dd :: hid) ρi H3 (wipe σ vs) (wipeE env vs) := by
        have q := (e1.wipe vs)
        exact ⟨q.len, fun j d' hj => let ⟨v, q1, q2⟩ := q.at_ j d' hj; ⟨v, q1, (Rep.conv (Cv.off xi hD) d' q2).mono x3⟩⟩
      refine set_ok rx re2 hset fun σ2 re3 w2 => ⟨by rw [w2 vs hsl, wipe_wipe], ?_⟩
      cases co with
      | none =>
        show tE X W0 ce σ2 H3 _
        refine ⟨Dd :: hid, ρi, env2, Si, r3, re3, ?_⟩
        have p5 : Post X.K X.mg (Dd :: hid) ρ1 H1 ((((ev ce env2 Si).bind fun x S => Rs.ok (some x) S).nox).bind fun o S1 => (match o with
          | some y => if ds.length < 1000000 then compL (turnC t vs .none ce env) (items.drop (i + 1)) (ds ++ [y]) S1 else .stuck
          | none => compL (turnC t vs .none ce env) (items.drop (i + 1)) ds S1)) (fun ρ' H' ds _ => ∀ acc, H' Dd = some (.lst acc) → RepL X.K (Dd :: hid) ρ' H' acc ds → Q (.ref Dd) H') (fun _ _ _ => False) := pi'
        exact p5.noxb fun ρ4 H4 y S4 x4 r4 p4 v rv => last x4 r4 p4 rv
      | some c =>
        have e0 : (evO (.some c) env2 Si).bind (fun b S => (match b with
            | some (.bl false) => .ok none S
            | some (.bl true) => (ev ce env2 S).bind fun x S => .ok (some x) S
            | some _ => .stuck
            | none => (ev ce env2 S).bind fun x S => .ok (some x) S)) = (ev c env2 Si).bind fun b S => (match b with
            | .bl false => .ok none S
            | .bl true => (ev ce env2 S).bind fun x S => .ok (some x) S
            | _ => .stuck) := by
          show ((ev c env2 Si).bind fun x S => Rs.ok (some x) S).bind _ = _
          rw [bind_assoc]
          congr 1
          funext x S
          cases x with
          | bl b => cases b <;> rfl
          | _ => rfl
        rw [e0] at pi'
        refine ⟨Dd :: hid, ρi, env2, Si, r3, re3, pi'.noxb fun ρ4 H4 y S4 x4 r4 p4 => ?_⟩
        split at p4
        · refine ⟨false, rfl, ?_⟩
          have hx := x3.trans x4
          exact ⟨hlt, ρ4, S4, acc, ds, xi.trans hx, r4, (hx.keep _ _ hDi nD).1, rl.mono hx, p4⟩
        · refine ⟨true, rfl, ?_⟩
          show tE X W0 ce σ2 H4 _
          refine ⟨Dd :: hid, ρ4, env2, S4, r4, re3.mono x4, p4.noxb fun ρ5 H5 y S5 x5 r5 p5 v rv => last (x4.trans x5) r5 p5 rv⟩
        · exact p4.elim
    · exact pi'.elim
  · have hi' : items.drop i = [] := List.drop_eq_nil_of_le (by omega)
    rw [hi'] at pi
    exact .inl ⟨wk.stop i ρi H2 xi (by omega), pi ρi H2 xi ri acc hDi rl⟩
end
end MI
namespace MI
open PySem PySem.Spec L2
section
variable {K : PySem.W.Frag} {mg : Str → Option Value} {hid : List Addr} {ρ ρ' : Rho} {H H' : Hp} {S S1 S' : Store} {n : Nat} {a : Addr} {u : HO} {c : Cell} {σ : L2.St} {env : MEnv}
theorem Cv.cell (ha : some a ∈ ρ) {o : HO} : Cv hid ρ H hid ρ (upd H a o) := ⟨Nat.le_refl _, fun _ _ => .inl rfl, fun b w h1 h2 h3 => ⟨by
  have hb : b ≠ a := fun z => h2 (z ▸ ha)
  rw [upd_ne hb]; exact h1, h2, h3⟩⟩
/-- a cell's object is another one -/
theorem RelS.rewrite {o : HO} (R : RelS K hid ρ H mg S) (e : ρ[n]? = some (some a)) (rc : RepC K hid ρ (upd H a o) mg n a c) : RelS K hid ρ (upd H a o) mg (S.set n c) := by
  have ha : some a ∈ ρ := List.mem_of_getElem? e
  refine ⟨by rw [List.length_set]; exact R.len, R.nd, fun m c' hc => ?_, fun b hb => ?_⟩
  · by_cases hm : m = n
    · subst hm
      have hl : m < S.length := by rw [← R.len]; exact (List.getElem?_eq_some_iff.mp e).1
      rw [List.getElem?_set_self hl] at hc
      cases hc
      exact .inr ⟨a, e, rc⟩
    · rw [List.getElem?_set_ne (Ne.symm hm)] at hc
      rcases R.cells m c' hc with q | ⟨b, q, r⟩
      · exact .inl q
      · have hb : b ≠ a := fun z => hm (R.nd m n a (z ▸ q) e)
        exact .inr ⟨b, q, r.imp (fun w h => by rw [upd_ne hb]; exact h) (fun d v z => Rep.conv (Cv.cell ha) d z) fun ds v z => RepL.conv (Cv.cell ha) ds z⟩
  · obtain ⟨⟨w, h1⟩, h2⟩ := R.hidd b hb
    have hne : b ≠ a := fun z => h2 (z ▸ ha)
    exact ⟨⟨w, by rw [upd_ne hne]; exact h1⟩, h2⟩
/-- what is got back where a locked cell is opened -/
structure Opened (K : PySem.W.Frag) (mg : Str → Option Value) (hid : List Addr) (ρ : Rho) (H : Hp) (n : Nat) (c : Cell) (a : Addr) (u : HO) (fz : HO) (ρ' : Rho) (H' : Hp) (S3 : Store) : Prop where
  at_ : H' a = some fz
  ext : Ext ρ H ρ' (upd H' a u)
  rel : RelS K hid ρ' (upd H' a u) mg S3
  cv : Cv hid ρ' H' hid ρ' (upd H' a u)
/-- what a locked cell is -/
structure Locked (K : PySem.W.Frag) (mg : Str → Option Value) (hid : List Addr) (ρ : Rho) (H : Hp) (S1 : Store) (n : Nat) (c : Cell) (a : Addr) (u : HO) : Prop where
  at_ : H a = some u
  mu : Mut (some u)
  run : ∀ od, Ext ρ H ρ (upd H a (.frz od u)) ∧ RelS K hid ρ (upd H a (.frz od u)) mg S1 ∧
    ∀ ρ' H' S' S3, Ext ρ (upd H a (.frz od u)) ρ' H' → RelS K hid ρ' H' mg S' → unl (some (n, c)) S' = some S3 → Opened K mg hid ρ H n c a u (.frz od u) ρ' H' S3
theorem lock_mk {lk : Cell} (r : RelS K hid ρ H mg S) (ha : ρ[n]? = some (some a)) (hu : H a = some u) (mu : Mut (some u)) (nf : ∀ q w, u ≠ .frz q w)
    (hl : ∀ od, RepC K hid ρ (upd H a (.frz od u)) mg n a lk) (hc : ∀ ρ' H', Ext ρ H ρ' (upd H' a u) → RepC K hid ρ' (upd H' a u) mg n a c) : Locked K mg hid ρ H (S.set n lk) n c a u := by
  refine ⟨hu, mu, fun od => ?_⟩
  have hm : some a ∈ ρ := List.mem_of_getElem? ha
  have nfr : ∀ q w, H a ≠ some (.frz q w) := fun q w z => by rw [hu] at z; exact nf q w (Option.some.inj z)
  obtain ⟨e1, r1⟩ := r.write ha nfr (hl od)
  refine ⟨e1, r1, fun ρ' H' S' S3 x r' hs => ?_⟩
  have at_ : H' a = some (.frz od u) := x.frz a od u upd_same
  have hn : n < ρ.length := (List.getElem?_eq_some_iff.mp ha).1
  have live : ρ'[n]? = some (some a) := by
    have hs' : (match S'[n]? with | some (.lkl _) => some (S'.set n c) | some (.lkd _) => some (S'.set n c) | some (.lkt _) => some (S'.set n c) | _ => none) = some S3 := hs
    have key : ∃ b, ρ'[n]? = some (some b) := by
      split at hs'
      · rename_i q; obtain ⟨b, hb, _⟩ := r'.at_ q (by simp); exact ⟨b, hb⟩
      · rename_i q; obtain ⟨b, hb, _⟩ := r'.at_ q (by simp); exact ⟨b, hb⟩
      · rename_i q; obtain ⟨b, hb, _⟩ := r'.at_ q (by simp); exact ⟨b, hb⟩
      · cases hs'
    obtain ⟨b, hb⟩ := key
    rcases x.slot n hn with q | q
    · rw [q]; exact ha
    · rw [q] at hb; cases hb
  have hm' : some a ∈ ρ' := List.mem_of_getElem? live
  have ext : Ext ρ H ρ' (upd H' a u) := ⟨x.len, x.slot, fun b w h1 h2 => by
    have hb : b ≠ a := fun z => h2 (z ▸ hm)
    obtain ⟨q1, q2⟩ := x.keep b w (by rw [upd_ne hb]; exact h1) h2
    exact ⟨by rw [upd_ne hb]; exact q1, q2⟩, fun b q w h => by
    have hb : b ≠ a := fun z => nfr q w (z ▸ h)
    rw [upd_ne hb]
    exact x.frz b q w (by rw [upd_ne hb]; exact h)⟩
  have e3 : S3 = S'.set n c := by
    have hs' : (match S'[n]? with | some (.lkl _) => some (S'.set n c) | some (.lkd _) => some (S'.set n c) | some (.lkt _) => some (S'.set n c) | _ => none) = some S3 := hs
    split at hs' <;> first | (cases hs'; rfl) | cases hs'
  subst e3
  exact ⟨at_, ext, r'.rewrite live (hc ρ' H' ext), Cv.cell hm'⟩
theorem lockC_open {d : D} {l : Nat × Cell} (r : RelS K hid ρ H mg S) (h : (lockC d S).2 = some l) : ∃ a u, Locked K mg hid ρ H (lockC d S).1 l.1 l.2 a u := by
  unfold lockC at h ⊢
  cases d with
  | ptr n =>
    simp only at h ⊢
    split at h
    · rename_i ds q
      cases h
      try rw [q]
      obtain ⟨a, ha, hlt, xs, hx, rl⟩ := r.at_ q (by simp)
      have hm : some a ∈ ρ := List.mem_of_getElem? ha
      exact ⟨a, .lst xs, lock_mk r ha hx trivial (fun _ _ z => by cases z) (fun od => ⟨hlt, xs, od, upd_same, RepL.conv (Cv.cell hm) _ rl⟩) fun ρ' H' x => ⟨hlt, xs, upd_same, rl.mono x⟩⟩
    · rename_i ds q
      cases h
      try rw [q]
      obtain ⟨a, ha, hlt, ks, hx, rl⟩ := r.at_ q (by simp)
      have hm : some a ∈ ρ := List.mem_of_getElem? ha
      exact ⟨a, .dK ks, lock_mk r ha hx trivial (fun _ _ z => by cases z) (fun od => ⟨hlt, ks, od, upd_same, rl.imp fun d v z => Rep.conv (Cv.cell hm) d z⟩) fun ρ' H' x => ⟨hlt, ks, upd_same, rl.imp fun d v z => z.mono x⟩⟩
    · rename_i ds q
      cases h
      try rw [q]
      obtain ⟨a, ha, hlt, ks, hx, rl⟩ := r.at_ q (by simp)
      have hm : some a ∈ ρ := List.mem_of_getElem? ha
      exact ⟨a, .dT ks, lock_mk r ha hx trivial (fun _ _ z => by cases z) (fun od => ⟨hlt, ks, od, upd_same, rl.imp fun d v z => Rep.conv (Cv.cell hm) d z⟩) fun ρ' H' x => ⟨hlt, ks, upd_same, rl.imp fun d v z => z.mono x⟩⟩
    · cases h
  | _ => cases h
theorem lockC_none {d : D} (h : (lockC d S).2 = none) : (lockC d S).1 = S := by
  unfold lockC at h ⊢
  cases d with
  | ptr n =>
    simp only at h ⊢
    split at h
    · cases h
    · cases h
    · cases h
    · rfl
  | _ => rfl
theorem lock_open {it : CI} {l : Nat × Cell} (r : RelS K hid ρ H mg S) (h : (lockI it env S).2 = some l) : ∃ a u, Locked K mg hid ρ H (lockI it env S).1 l.1 l.2 a u := by
  cases it with
  | cell i =>
    simp only [lockI] at h ⊢
    split at h
    · exact lockC_open r h
    · cases h
  | cellE e =>
    simp only [lockI] at h ⊢
    split at h
    · exact lockC_open r h
    · cases h
  | _ => cases h
theorem lock_none {it : CI} (h : (lockI it env S).2 = none) : (lockI it env S).1 = S := by
  cases it with
  | cell i =>
    simp only [lockI] at h ⊢
    split at h
    · exact lockC_none h
    · rfl
  | cellE e =>
    simp only [lockI] at h ⊢
    split at h
    · exact lockC_none h
    · rfl
  | _ => rfl
theorem unl_none : unl none S = some S := rfl
end
section
variable {X : Cx} {W : WX} {σ : L2.St} {H : Hp} {c a b ce : CE} {cs : CEs} {e tg ea eb ec elt iter : PySem.Expr} {es ifs : List PySem.Expr} {p pos : Pos} {own : List (Str × Nat)} {t : Tg} {it : CI} {co : CO} {scope : Scope}
theorem upd_comm {a b : Addr} {o u : HO} (h : a ≠ b) : upd (upd H a o) b u = upd (upd H b u) a o := by
  funext c
  unfold upd
  by_cases h1 : c = b
  · by_cases h2 : c = a
    · exact absurd (h2.symm.trans h1) h
    · rw [if_pos h1, if_neg h2, if_pos h1]
  · by_cases h2 : c = a
    · rw [if_neg h1, if_pos h2, if_pos h2]
    · rw [if_neg h1, if_neg h2, if_neg h2, if_neg h1]
theorem evL_comp {env : MEnv} {S : Store} : evL (.comp own t it co ce) env S = (evC own t it co ce env (lockI it env S).1).bind fun ds S2 => (match unl (lockI it env S).2 S2 with | some S3 => .ok ds S3 | none => .stuck) := by
  unfold evC
  rw [bind_assoc]
  rfl
theorem comp_lock {Q : VK} (h : tL X W (.comp own t it co ce) σ H Q) : tLu X W own t it co ce σ H Q ∨ tLockE (tLu X W own t it co ce) σ H Q := by
  obtain ⟨hid, ρ, env, S, r, re, p⟩ := h
  rw [evL_comp] at p
  cases q : (lockI it env S).2 with
  | none =>
    rw [q, lock_none q] at p
    exact .inl ⟨hid, ρ, env, S, r, re, p.bind fun ρ1 H1 ds S1 e1 r1 p1 => p1.here r1⟩
  | some l =>
    obtain ⟨n, cc⟩ := l
    rw [q] at p
    obtain ⟨a, u, L⟩ := lock_open r q
    refine .inr ⟨a, u, L.at_, L.mu, fun od => ?_⟩
    obtain ⟨e1, r1, k⟩ := L.run od
    refine ⟨hid, ρ, env, (lockI it env S).1, r1, re.mono e1, ?_⟩
    cases z : evC own t it co ce env (lockI it env S).1 with
    | ok ds S2 =>
      rw [z] at p
      have p2 : Post X.K X.mg hid ρ H (match unl (some (n, cc)) S2 with | some S3 => .ok ds S3 | none => .stuck) (fun ρ' H' ds _ => ∀ xs p, RepL X.K hid ρ' H' xs ds → H' p = none → Q (.ref p) (upd H' p (.lst xs))) (fun cls d H' => W cls d σ H') := p
      intro ρ' H' x r' xs pp rl hp
      split at p2
      · rename_i S3 hs
        have O := k ρ' H' S2 S3 x r' hs
        have hne : pp ≠ a := fun z => by rw [z, O.at_] at hp; cases hp
        refine ⟨by rw [upd_ne (Ne.symm hne)]; exact O.at_, ?_⟩
        have := p2 ρ' (upd H' a u) O.ext O.rel xs pp (RepL.conv O.cv _ rl) (by rw [upd_ne hne]; exact hp)
        rw [upd_comm hne]
        exact this
      · exact p2.elim
    | ex c0 fs S2 =>
      rw [z] at p
      intro ρ' H' cls d x r' xr
      exact (p : Post X.K X.mg hid ρ H (Rs.ex c0 fs S2 : Rs (List D)) _ _) ρ' H' cls d (e1.trans x) r' xr
    | stuck => rw [z] at p; exact p.elim
/-- the parts of a comprehension, in its own block -/
structure Comp (X : Cx) (scope : Scope) (own : List (Str × Nat)) (t : Tg) (it : CI) (co : CO) (ce : CE) (tg iter elt : PySem.Expr) (ifs : List PySem.Expr) : Prop where
  hc : X.calm = true
  hN : X.N.Nodup
  hi : ∀ W, L2N.Takes X W → PI X tg iter (tI X W it)
  ok : BlkOk X.N X.env.scope scope own
  hsl : ∀ i ∈ t.slots, i ∈ own.map (·.2)
  hg : ∀ (s : Shared) (H : Hp) (C : Addr) (cl : List (Str × Addr)) (fp : List Addr), PG (X.blk s H scope (compEnvC scope cl C X.env) fp) tg (gOf X.K t)
  ht : ∀ (s : Shared) (H : Hp) (C : Addr) (cl : List (Str × Addr)) (fp : List Addr), PTs (X.blk s H scope (compEnvC scope cl C X.env) fp) ifs (tCt X co)
  he : ∀ (s : Shared) (H : Hp) (C : Addr) (cl : List (Str × Addr)) (fp : List Addr), PE (X.blk s H scope (compEnvC scope cl C X.env) fp) elt (tE X W0 ce)
  hs : ∀ x, foldedSetIterable iter X.env x = pure x
theorem PE.or {t t' : TE} (h : PE X e t) (h' : PE X e t') : PE X e fun σ H Q => t σ H Q ∨ t' σ H Q := ⟨fun pins s σ H Q I hw => hw.elim (fun q => h.run pins s σ H Q I q) fun q => h'.run pins s σ H Q I q⟩
theorem PS.or {st : PySem.Stmt} {t t' : TS} (h : PS X st t) (h' : PS X st t') : PS X st fun D σ H => t D σ H ∨ t' D σ H := ⟨fun pins s σ H D I hw => hw.elim (fun q => h.run pins s σ H D I q) fun q => h'.run pins s σ H D I q⟩
theorem s_comp (tk : L2N.Takes X W) (C : Comp X scope own t it co ce tg iter elt ifs) : PE X (.ListComp elt [⟨tg, iter, ifs, 0⟩] scope pos) (tL X W (.comp own t it co ce)) := by
  have h0 : PE X (.ListComp elt [⟨tg, iter, ifs, 0⟩] scope pos) (tLu X W own t it co ce) := PE.imp (pe_lc C.hc C.hN (C.hi W tk) C.ok C.hg C.ht C.he C.hs) fun σ H Q h => lc_read C.hsl h
  exact PE.imp (PE.or h0 (pe_lock h0)) fun σ H Q h => comp_lock h
theorem new_read {m : Bool} {l : CL} {Q : VK} (hq : tE X W (.new m l) σ H Q) : tL X W l σ H Q := by
  have h' : Go X W σ H (fun env S => (evL l env S).bind fun ds S => newL m ds S) (fun hid ρ H' d _ => ∀ v, Rep X.K hid ρ H' v d → Q v H') := hq
  refine h'.bind fun hid ρ1 H1 ds S1 env r1 e1 p1 xs p rl hp => ?_
  cases m with
  | false =>
    obtain ⟨q1, q2, q3⟩ := new_lst r1 rl hp
    have p1' : Post X.K X.mg hid ρ1 H1 (Rs.ok (D.lst ds) S1) (fun ρ H' d _ => ∀ v, Rep X.K hid ρ H' v d → Q v H') (fun cls d H' => W cls d σ H') := p1
    exact p1' _ _ q1 q2 _ q3
  | true =>
    have p1' : Post X.K X.mg hid ρ1 H1 (if ltL ds S1.length then Rs.ok (D.ptr S1.length) (S1 ++ [.lst ds]) else Rs.stuck) (fun ρ H' d _ => ∀ v, Rep X.K hid ρ H' v d → Q v H') (fun cls d H' => W cls d σ H') := p1
    split at p1'
    · rename_i hl
      have ex := r1.ext_push (o := HO.lst xs) hp
      obtain ⟨q1, q2⟩ := r1.push (o := HO.lst xs) (c := .lst ds) hp ⟨hl, xs, upd_same, rl.mono ex⟩
      refine p1' _ _ q1 q2 _ (.ptr ?_ fun a ha => ?_)
      · rw [List.length_append, r1.len]; exact Nat.lt_succ_self _
      · rw [← r1.len] at ha
        simp at ha
        rw [ha]
    · exact p1'.elim
end
/-! ### dict comprehensions -/
def turnD (t : Tg) (vs : List Nat) (c : CO) (k v : CE) (ρ : MEnv) (d : D) (S : Store) : Rs (Option (Key × D)) :=
  match setT t d (wipeE ρ vs) with
  | some ρ1 => ((evO c ρ1 S).bind fun b S => (match b with
    | some (.bl false) => .ok none S
    | some (.bl true) => (ev k ρ1 S).bind fun x S => (ev v ρ1 S).bind fun y S => Rs.of ((toKey x).map fun x => some (x, y)) S
    | some _ => .stuck
    | none => (ev k ρ1 S).bind fun x S => (ev v ρ1 S).bind fun y S => Rs.of ((toKey x).map fun x => some (x, y)) S)).nox
  | none => .stuck
theorem turnD_noex {t vs c k v ρ d S} : Noex (turnD t vs c k v ρ d S) := by
  unfold turnD
  split
  · exact noex_nox _
  · trivial
theorem compD_noex {f : D → Store → Rs (Option (Key × D))} (hf : ∀ d S, Noex (f d S)) : ∀ (ds : List D) (acc : List (Key × D)) (S : Store), Noex (compD f ds acc S)
  | [], _, _ => trivial
  | d :: ds, acc, S => by
    unfold compD
    have h := hf d S
    cases q : f d S with
    | ok o S1 =>
      show Noex (match o with | some y => if acc.length < 1000000 then compD f ds (putD acc y.1 y.2) S1 else .stuck | none => compD f ds acc S1)
      cases o with
      | none => exact compD_noex hf ds acc S1
      | some y =>
        show Noex (if acc.length < 1000000 then compD f ds (putD acc y.1 y.2) S1 else .stuck)
        split
        · exact compD_noex hf ds _ S1
        · trivial
    | ex c fs S1 => rw [q] at h; exact h.elim
    | stuck => trivial
section
variable {X : Cx} {W : WX} {σ : L2.St} {H : Hp} {kk vv : CE} {tg iter kx vx : PySem.Expr} {ifs : List PySem.Expr} {pos : Pos} {own : List (Str × Nat)} {t : Tg} {it : CI} {co : CO} {scope : Scope}
def evDc (own : List (Str × Nat)) (t : Tg) (it : CI) (c : CO) (k v : CE) (ρ : MEnv) (S : Store) : Rs (List (Key × D)) := (evI it ρ S).bind fun items S1 => compD (turnD t (own.map (·.2)) c k v ρ) items [] S1
def tDu (X : Cx) (W : WX) (own : List (Str × Nat)) (t : Tg) (it : CI) (c : CO) (k v : CE) : TE := fun σ H Q => Go X W σ H (evDc own t it c k v) fun hid ρ H' kvs _ => ∀ ks p, RepKV X.K hid ρ H' ks kvs → H' p = none → Q (.ref p) (upd H' p (.dK ks))
theorem dc_read (hsl : ∀ i ∈ t.slots, i ∈ own.map (·.2)) {Q : VK} (h : tDu X W own t it co kk vv σ H Q) :
    tDc (tI X W it) (gOf X.K t) (tCt X co) (tE X W0 kk) (tE X W0 vv) (own.map (·.2)) σ H Q := by
  generalize hvs : own.map (·.2) = vs at hsl ⊢
  have h' : Go X W σ H (fun env S => (evI it env S).bind fun items S1 => compD (turnD t (own.map (·.2)) co kk vv env) items [] S1) (fun hid ρ H' kvs _ => ∀ ks p, RepKV X.K hid ρ H' ks kvs → H' p = none → Q (.ref p) (upd H' p (.dK ks))) := h
  rw [hvs] at h'
  refine h'.bind fun hid ρ1 H1 items S1 env r1 e1 p1 J wk Dd hD => ?_
  obtain ⟨f1, f2⟩ := r1.fresh hD
  obtain ⟨x1, r1'⟩ := r1.hide (o := .dK []) hD
  have P0 : Post X.K X.mg (Dd :: hid) ρ1 H1 (compD (turnD t vs co kk vv env) items [] S1) (fun ρ' H' kvs _ => ∀ ks, H' Dd = some (.dK ks) → RepKV X.K (Dd :: hid) ρ' H' ks kvs → Q (.ref Dd) H') (fun _ _ _ => False) := by
    have ne := compD_noex (f := turnD t vs co kk vv env) (fun _ _ => turnD_noex) items [] S1
    cases q : compD (turnD t vs co kk vv env) items [] S1 with
    | ok ds S2 =>
      rw [q] at p1
      intro ρ' H' x' r' acc ha rl
      obtain ⟨d1, d2⟩ := r'.drop f2
      have x2 : Ext ρ1 H1 ρ' (without H' Dd) := ⟨x'.len, x'.slot, fun b u h1 h2 => by
        obtain ⟨q1, q2⟩ := x'.keep b u h1 h2
        exact ⟨by rw [without_ne (ne_of_none h1 hD)]; exact q1, q2⟩, fun b q u h => by rw [without_ne (ne_of_none h hD)]; exact x'.frz b q u h⟩
      have := p1 ρ' (without H' Dd) x2 d1 acc Dd (rl.imp fun d v z => Rep.conv d2 d z) (if_pos rfl)
      rwa [without_upd ha] at this
    | ex cc fs S2 => rw [q] at ne; exact ne.elim
    | stuck => rw [q] at p1; exact p1.elim
  refine ⟨fun i m H2 => m = items.length - i ∧ i ≤ items.length ∧ ∃ ρi Si acc ds, Ext ρ1 H1 ρi H2 ∧ RelS X.K (Dd :: hid) ρi H2 X.mg Si ∧ H2 Dd = some (.dK acc) ∧ RepKV X.K (Dd :: hid) ρi H2 acc ds ∧
      Post X.K X.mg (Dd :: hid) ρ1 H1 (compD (turnD t vs co kk vv env) (items.drop i) ds Si) (fun ρ' H' kvs _ => ∀ ks, H' Dd = some (.dK ks) → RepKV X.K (Dd :: hid) ρ' H' ks kvs → Q (.ref Dd) H') (fun _ _ _ => False),
    ⟨_, rfl, Nat.zero_le _, ρ1, S1, [], [], x1, r1', upd_same, .nil, P0⟩, ?_⟩
  rintro i m H2 ⟨rfl, hi, ρi, Si, acc, ds, xi, ri, hDi, rl, pi⟩
  by_cases hlt : i < items.length
  · refine .inr ⟨wk.go i ρi H2 xi hlt, fun H' => i + 1 ≤ items.length ∧ ∃ ρi Si acc ds, Ext ρ1 H1 ρi H' ∧ RelS X.K (Dd :: hid) ρi H' X.mg Si ∧ H' Dd = some (.dK acc) ∧ RepKV X.K (Dd :: hid) ρi H' acc ds ∧
      Post X.K X.mg (Dd :: hid) ρ1 H1 (compD (turnD t vs co kk vv env) (items.drop (i + 1)) ds Si) (fun ρ' H' kvs _ => ∀ ks, H' Dd = some (.dK ks) → RepKV X.K (Dd :: hid) ρ' H' ks kvs → Q (.ref Dd) H') (fun _ _ _ => False),
      fun H' n => ⟨items.length - (i + 1), by omega, rfl, n.1, n.2⟩, fun x H3 y => ?_⟩
    obtain ⟨x3, r3, d, hd, rx⟩ := wk.yl i (Dd :: hid) ρi H2 Si x H3 xi (Cv.off xi hD) ri hlt y
    have hdrop : items.drop i = d :: items.drop (i + 1) := by
      rw [List.drop_eq_getElem_cons hlt]
      have : items[i]? = some items[i] := List.getElem?_eq_getElem hlt
      rw [this] at hd
      cases hd
      rfl
    rw [hdrop] at pi
    have pi' : Post X.K X.mg (Dd :: hid) ρ1 H1 ((turnD t vs co kk vv env d Si).bind fun o S1 => (match o with
      | some y => if ds.length < 1000000 then compD (turnD t vs co kk vv env) (items.drop (i + 1)) (putD ds y.1 y.2) S1 else .stuck
      | none => compD (turnD t vs co kk vv env) (items.drop (i + 1)) ds S1)) (fun ρ' H' kvs _ => ∀ ks, H' Dd = some (.dK ks) → RepKV X.K (Dd :: hid) ρ' H' ks kvs → Q (.ref Dd) H') (fun _ _ _ => False) := pi
    have nD : some Dd ∉ ρi := (ri.hidd Dd List.mem_cons_self).2
    -- behind the element
    have last : ∀ {ρ4 : Rho} {H4 : Hp} {S4 : Store} {x y : D} {xv v : V}, Ext ρi H3 ρ4 H4 → RelS X.K (Dd :: hid) ρ4 H4 X.mg S4 →
        Post X.K X.mg (Dd :: hid) ρ1 H1 (((Rs.of ((toKey x).map fun x => some (x, y)) S4).nox).bind fun o S1 => (match o with
          | some y => if ds.length < 1000000 then compD (turnD t vs co kk vv env) (items.drop (i + 1)) (putD ds y.1 y.2) S1 else .stuck
          | none => compD (turnD t vs co kk vv env) (items.drop (i + 1)) ds S1)) (fun ρ' H' kvs _ => ∀ ks, H' Dd = some (.dK ks) → RepKV X.K (Dd :: hid) ρ' H' ks kvs → Q (.ref Dd) H') (fun _ _ _ => False) →
        (∃ ρx Hx, Rep X.K (Dd :: hid) ρx Hx xv x) → Rep X.K (Dd :: hid) ρ4 H4 v y → ∃ acc k, xv = kV k ∧ H4 Dd = some (.dK acc) ∧ acc.length < sizeLine ∧ (i + 1 ≤ items.length ∧ ∃ ρi Si acc' ds, Ext ρ1 H1 ρi (upd H4 Dd (.dK (putK acc k v))) ∧ RelS X.K (Dd :: hid) ρi (upd H4 Dd (.dK (putK acc k v))) X.mg Si ∧ (upd H4 Dd (.dK (putK acc k v))) Dd = some (.dK acc') ∧ RepKV X.K (Dd :: hid) ρi (upd H4 Dd (.dK (putK acc k v))) acc' ds ∧
          Post X.K X.mg (Dd :: hid) ρ1 H1 (compD (turnD t vs co kk vv env) (items.drop (i + 1)) ds Si) (fun ρ' H' kvs _ => ∀ ks, H' Dd = some (.dK ks) → RepKV X.K (Dd :: hid) ρ' H' ks kvs → Q (.ref Dd) H') (fun _ _ _ => False)) := fun {ρ4 H4 S4 x y xv v} x4 r4 p4 rxv rv => by
      obtain ⟨ρx, Hx, rxv⟩ := rxv
      cases hk : toKey x with
      | none => rw [hk] at p4; exact p4.elim
      | some k =>
        rw [hk] at p4
        have p5 : Post X.K X.mg (Dd :: hid) ρ1 H1 (if ds.length < 1000000 then compD (turnD t vs co kk vv env) (items.drop (i + 1)) (putD ds k y) S4 else .stuck) (fun ρ' H' kvs _ => ∀ ks, H' Dd = some (.dK ks) → RepKV X.K (Dd :: hid) ρ' H' ks kvs → Q (.ref Dd) H') (fun _ _ _ => False) := p4
        split at p5
        · rename_i hz
          have hx := x3.trans x4
          refine ⟨acc, k, toKey_rep rxv hk, (hx.keep _ _ hDi nD).1, lt_line (by rw [kv_len rl]; exact hz), hlt, ρ4, S4, putK acc k v, putD ds k y, Ext.off (xi.trans hx) hD, r4.turn, upd_same, ?_, p5⟩
          exact kv_put (rl.imp fun d v z => Rep.conv Cv.turn d (z.mono hx)) (Rep.conv Cv.turn _ rv)
        · exact p5.elim
    unfold turnD at pi'
    split at pi'
    · rename_i env2 hset
      have re2 : RelE X.K (Dd :: hid) ρi H3 (wipe σ vs) (wipeE env vs) := by
        have q := (e1.wipe vs)
        exact ⟨q.len, fun j d' hj => let ⟨v, q1, q2⟩ := q.at_ j d' hj; ⟨v, q1, (Rep.conv (Cv.off xi hD) d' q2).mono x3⟩⟩
      refine set_ok rx re2 hset fun σ2 re3 w2 => ⟨by rw [w2 vs hsl, wipe_wipe], ?_⟩
      cases co with
      | none =>
        show tE X W0 kk σ2 H3 _
        refine ⟨Dd :: hid, ρi, env2, Si, r3, re3, ?_⟩
        have p5 : Post X.K X.mg (Dd :: hid) ρ1 H1 ((((ev kk env2 Si).bind fun x S => (ev vv env2 S).bind fun y S => Rs.of ((toKey x).map fun x => some (x, y)) S).nox).bind fun o S1 => (match o with
          | some y => if ds.length < 1000000 then compD (turnD t vs .none kk vv env) (items.drop (i + 1)) (putD ds y.1 y.2) S1 else .stuck
          | none => compD (turnD t vs .none kk vv env) (items.drop (i + 1)) ds S1)) (fun ρ' H' kvs _ => ∀ ks, H' Dd = some (.dK ks) → RepKV X.K (Dd :: hid) ρ' H' ks kvs → Q (.ref Dd) H') (fun _ _ _ => False) := pi'
        exact p5.noxb fun ρ4 H4 y S4 x4 r4 p4 xv rxv => ⟨Dd :: hid, ρ4, env2, S4, r4, re3.mono x4, p4.noxb fun ρ5 H5 z S5 x5 r5 p5 v rv => last (x4.trans x5) r5 p5 ⟨_, _, rxv⟩ rv⟩
      | some c =>
        have e0 : (evO (.some c) env2 Si).bind (fun b S => (match b with
            | some (.bl false) => .ok none S
            | some (.bl true) => (ev kk env2 S).bind fun x S => (ev vv env2 S).bind fun y S => Rs.of ((toKey x).map fun x => some (x, y)) S
            | some _ => .stuck
            | none => (ev kk env2 S).bind fun x S => (ev vv env2 S).bind fun y S => Rs.of ((toKey x).map fun x => some (x, y)) S)) = (ev c env2 Si).bind fun b S => (match b with
            | .bl false => .ok none S
            | .bl true => (ev kk env2 S).bind fun x S => (ev vv env2 S).bind fun y S => Rs.of ((toKey x).map fun x => some (x, y)) S
            | _ => .stuck) := by
          show ((ev c env2 Si).bind fun x S => Rs.ok (some x) S).bind _ = _
          rw [bind_assoc]
          congr 1
          funext x S
          cases x with
          | bl b => cases b <;> rfl
          | _ => rfl
        rw [e0] at pi'
        refine ⟨Dd :: hid, ρi, env2, Si, r3, re3, pi'.noxb fun ρ4 H4 y S4 x4 r4 p4 => ?_⟩
        split at p4
        · refine ⟨false, rfl, ?_⟩
          have hx := x3.trans x4
          exact ⟨hlt, ρ4, S4, acc, ds, xi.trans hx, r4, (hx.keep _ _ hDi nD).1, rl.imp fun d v z => z.mono hx, p4⟩
        · refine ⟨true, rfl, ?_⟩
          show tE X W0 kk σ2 H4 _
          refine ⟨Dd :: hid, ρ4, env2, S4, r4, re3.mono x4, p4.noxb fun ρ5 H5 y S5 x5 r5 p5 xv rxv => ⟨Dd :: hid, ρ5, env2, S5, r5, (re3.mono x4).mono x5, p5.noxb fun ρ6 H6 z S6 x6 r6 p6 v rv => last ((x4.trans x5).trans x6) r6 p6 ⟨_, _, rxv⟩ rv⟩⟩
        · exact p4.elim
    · exact pi'.elim
  · have hi' : items.drop i = [] := List.drop_eq_nil_of_le (by omega)
    rw [hi'] at pi
    exact .inl ⟨wk.stop i ρi H2 xi (by omega), pi ρi H2 xi ri acc hDi rl⟩
theorem ev_dc {env : MEnv} {S : Store} : ev (.dcomp own t it co kk vv) env S = (evDc own t it co kk vv env (lockI it env S).1).bind fun kvs S2 => (match unl (lockI it env S).2 S2 with | some S3 => if kvs.all (fun kv => kv.2.lt S3.length) then .ok (.ptr S3.length) (S3 ++ [.dK kvs]) else .stuck | none => .stuck) := by
  unfold evDc
  rw [bind_assoc]
  rfl
/-- the new dict is a cell -/
theorem dc_new {hid : List Addr} {ρ : Rho} {H : Hp} {S : Store} {kvs : List (Key × D)} {ks : List (Key × V)} {p : Addr} {Q : VK} {W' : Value → Option Addr → Hp → Prop} (r : RelS X.K hid ρ H X.mg S) (rl : RepKV X.K hid ρ H ks kvs) (hp : H p = none)
    (h : Post X.K X.mg hid ρ H (if kvs.all (fun kv => kv.2.lt S.length) then Rs.ok (D.ptr S.length) (S ++ [.dK kvs]) else Rs.stuck) (fun ρ H' d _ => ∀ v, Rep X.K hid ρ H' v d → Q v H') W') : Q (.ref p) (upd H p (.dK ks)) := by
  split at h
  · rename_i hl
    have ex := r.ext_push (o := HO.dK ks) hp
    obtain ⟨q1, q2⟩ := r.push (o := HO.dK ks) (c := .dK kvs) hp ⟨fun kv hm => List.all_eq_true.mp hl kv hm, ks, upd_same, rl.imp fun d v z => z.mono ex⟩
    refine h _ _ q1 q2 _ (.ptr ?_ fun a ha => ?_)
    · rw [List.length_append, r.len]; exact Nat.lt_succ_self _
    · rw [← r.len] at ha
      simp at ha
      rw [ha]
  · exact h.elim
theorem dc_lock {Q : VK} (h : tE X W (.dcomp own t it co kk vv) σ H Q) : tDu X W own t it co kk vv σ H Q ∨ tLockE (tDu X W own t it co kk vv) σ H Q := by
  obtain ⟨hid, ρ, env, S, r, re, p⟩ := h
  rw [ev_dc] at p
  cases q : (lockI it env S).2 with
  | none =>
    rw [q, lock_none q] at p
    refine .inl ⟨hid, ρ, env, S, r, re, p.bind fun ρ1 H1 kvs S1 e1 r1 p1 ks pp rl hp => ?_⟩
    exact dc_new r1 rl hp p1
  | some l =>
    obtain ⟨n, cc⟩ := l
    rw [q] at p
    obtain ⟨a, u, L⟩ := lock_open r q
    refine .inr ⟨a, u, L.at_, L.mu, fun od => ?_⟩
    obtain ⟨e1, r1, k⟩ := L.run od
    refine ⟨hid, ρ, env, (lockI it env S).1, r1, re.mono e1, ?_⟩
    cases z : evDc own t it co kk vv env (lockI it env S).1 with
    | ok kvs S2 =>
      rw [z] at p
      have p2 : Post X.K X.mg hid ρ H (match unl (some (n, cc)) S2 with | some S3 => if kvs.all (fun kv => kv.2.lt S3.length) then Rs.ok (D.ptr S3.length) (S3 ++ [.dK kvs]) else .stuck | none => .stuck) (fun ρ' H' d _ => ∀ v, Rep X.K hid ρ' H' v d → Q v H') (fun cls d H' => W cls d σ H') := p
      intro ρ' H' x r' ks pp rl hp
      split at p2
      · rename_i S3 hs
        have O := k ρ' H' S2 S3 x r' hs
        have hne : pp ≠ a := fun z => by rw [z, O.at_] at hp; cases hp
        refine ⟨by rw [upd_ne (Ne.symm hne)]; exact O.at_, ?_⟩
        have := dc_new (Q := Q) (p := pp) O.rel (rl.imp fun d v z => Rep.conv O.cv d z) (by rw [upd_ne hne]; exact hp) (Post.ext O.ext p2)
        rw [upd_comm hne]
        exact this
      · exact p2.elim
    | ex c0 fs S2 =>
      rw [z] at p
      intro ρ' H' cls d x r' xr
      exact (p : Post X.K X.mg hid ρ H (Rs.ex c0 fs S2 : Rs D) _ _) ρ' H' cls d (e1.trans x) r' xr
    | stuck => rw [z] at p; exact p.elim
end
section
variable {X : Cx} {W : WX} {σ : L2.St} {H : Hp} {kk vv : CE} {tg iter kx vx : PySem.Expr} {ifs : List PySem.Expr} {pos : Pos} {own : List (Str × Nat)} {t : Tg} {it : CI} {co : CO} {scope : Scope}
structure CompD (X : Cx) (scope : Scope) (own : List (Str × Nat)) (t : Tg) (it : CI) (co : CO) (kk vv : CE) (tg iter kx vx : PySem.Expr) (ifs : List PySem.Expr) : Prop where
  hc : X.calm = true
  hN : X.N.Nodup
  hi : ∀ W, L2N.Takes X W → PI X tg iter (tI X W it)
  ok : BlkOk X.N X.env.scope scope own
  hsl : ∀ i ∈ t.slots, i ∈ own.map (·.2)
  hg : ∀ (s : Shared) (H : Hp) (C : Addr) (cl : List (Str × Addr)) (fp : List Addr), PG (X.blk s H scope (compEnvC scope cl C X.env) fp) tg (gOf X.K t)
  ht : ∀ (s : Shared) (H : Hp) (C : Addr) (cl : List (Str × Addr)) (fp : List Addr), PTs (X.blk s H scope (compEnvC scope cl C X.env) fp) ifs (tCt X co)
  hk : ∀ (s : Shared) (H : Hp) (C : Addr) (cl : List (Str × Addr)) (fp : List Addr), PE (X.blk s H scope (compEnvC scope cl C X.env) fp) kx (tE X W0 kk)
  he : ∀ (s : Shared) (H : Hp) (C : Addr) (cl : List (Str × Addr)) (fp : List Addr), PE (X.blk s H scope (compEnvC scope cl C X.env) fp) vx (tE X W0 vv)
  hs : ∀ x, foldedSetIterable iter X.env x = pure x
theorem s_dcomp (tk : L2N.Takes X W) (C : CompD X scope own t it co kk vv tg iter kx vx ifs) : PE X (.DictComp kx vx [⟨tg, iter, ifs, 0⟩] scope pos) (tE X W (.dcomp own t it co kk vv)) := by
  have h0 : PE X (.DictComp kx vx [⟨tg, iter, ifs, 0⟩] scope pos) (tDu X W own t it co kk vv) := PE.imp (pe_dc C.hc C.hN (C.hi W tk) C.ok C.hg C.ht C.hk C.he C.hs) fun σ H Q h => dc_read C.hsl h
  exact PE.imp (PE.or h0 (pe_lock h0)) fun σ H Q h => dc_lock h
/-- name = {..} on one line, the name a local -/
theorem ps_setDc {i : Nat} {y : Str} {py spos : Pos} {wi : TI} {g : TG} {tt : TT} {tk tv : TE} (hc : X.calm = true) (hN : X.N.Nodup) (hy : X.N[i]? = some y) (hyl : X.env.scope.names.lookup y = some .local)
    (hsw : swapsWith (.DictComp kx vx [⟨tg, iter, ifs, 0⟩] scope pos) (some (.Name y py)) spos.line X.env = pure true) (hi : PI X tg iter wi) (ok : BlkOk X.N X.env.scope scope own)
    (hg : ∀ (s : Shared) (H : Hp) (C : Addr) (cl : List (Str × Addr)) (fp : List Addr), PG (X.blk s H scope (compEnvC scope cl C X.env) fp) tg g) (ht : ∀ (s : Shared) (H : Hp) (C : Addr) (cl : List (Str × Addr)) (fp : List Addr), PTs (X.blk s H scope (compEnvC scope cl C X.env) fp) ifs tt)
    (hk : ∀ (s : Shared) (H : Hp) (C : Addr) (cl : List (Str × Addr)) (fp : List Addr), PE (X.blk s H scope (compEnvC scope cl C X.env) fp) kx tk)
    (he : ∀ (s : Shared) (H : Hp) (C : Addr) (cl : List (Str × Addr)) (fp : List Addr), PE (X.blk s H scope (compEnvC scope cl C X.env) fp) vx tv) (hs : ∀ x, foldedSetIterable iter X.env x = pure x) :
    PS X (.Assign [.Name y py] (.DictComp kx vx [⟨tg, iter, ifs, 0⟩] scope pos) spos) (tAsg (tDc wi g tt tk tv (own.map (·.2))) (gName i)) := by
  refine ⟨fun pins s σ H D I h => ?_⟩
  rw [exec_Assign_Name_used _ _ _ _ hsw]
  refine wpAny_bind (wpAny_standAt (wpAny_bind ?_))
  show wpAny _ X.A (do let _ ← comprehension (.DictComp kx vx [⟨tg, iter, ifs, 0⟩] scope pos) scope X.env (firstIterPos [⟨tg, iter, ifs, 0⟩] pos) newDict false (eval iter X.env) (some (assign (.Name y py) X.env))) _ _ s
  have h : tDc wi g tt tk tv (own.map (·.2)) σ H (fun x H1 => gName i x σ H1 D.nx) := h
  refine wpAny_bind (thn (dc_core (Qf := fun _ s' => SP X pins D .next s') hc hN I hi ok hg ht hk he hs h fun L C s' m H' I' q hn f => ?_) fun _ s' hq => wpAny_pure (wpAny_pure hq))
  show wpAny _ _ (assign (.Name y py) X.env (.ref L)) _ _ _
  refine wpAny_assign_Name (store_ok2 (v := V.ref L) I' hN hy (.inl hyl) rfl (fun s2 I2 ⟨a, sb, ha⟩ => ?_) (.inr hyl))
  obtain ⟨f0, f1, f2, f3, f4, f5⟩ := f
  have haC : C ≠ a := by
    rcases ha with z | z
    · rw [z]; exact f1
    · exact fun e => f4 y a z e.symm
  refine ⟨m, hn.sameBut sb haC, fun h3 sb3 => ?_⟩
  exact ⟨_, H', I2.turned (t' := s2.toks) (fun b o hb e => (sb3.2 b hb).trans e) f0 f1 f3 f4 f5, q⟩
end
end MI
namespace MI
open PySem PySem.Spec L2
/-! ### statements -/
section
variable (K : PySem.W.Frag) (mg : Str → Option Value) (hid : List Addr) (ρ : Rho) (H : Hp)
def PostF (r : Fl) (D : Ends) (W : WX) : Prop :=
  match r with
  | .nx env S => ∀ ρ' H' σ', Ext ρ H ρ' H' → RelS K hid ρ' H' mg S → RelE K hid ρ' H' σ' env → D.nx σ' H'
  | .ret d S => ∀ ρ' H' v, Ext ρ H ρ' H' → RelS K hid ρ' H' mg S → Rep K hid ρ' H' v d → D.rt v H'
  | .ex c fs env S => ∀ ρ' H' cls d σ', Ext ρ H ρ' H' → RelS K hid ρ' H' mg S → RelE K hid ρ' H' σ' env → ExcRep K mg hid ρ' H' cls d c fs → W cls d σ' H'
  | .stuck => False
end
section
variable {K : PySem.W.Frag} {mg : Str → Option Value} {hid : List Addr} {ρ ρ' : Rho} {H H' : Hp} {D D' : Ends} {W : WX} {r : Fl} {S : Store} {σ : L2.St} {env : MEnv}
theorem PostF.ext (e : Ext ρ H ρ' H') (h : PostF K mg hid ρ H r D W) : PostF K mg hid ρ' H' r D W := by
  cases r with
  | nx env S => exact fun ρ1 H1 σ' e1 => h ρ1 H1 σ' (e.trans e1)
  | ret d S => exact fun ρ1 H1 v e1 => h ρ1 H1 v (e.trans e1)
  | ex c fs env S => exact fun ρ1 H1 cls d σ' e1 => h ρ1 H1 cls d σ' (e.trans e1)
  | stuck => exact h
theorem PostF.fl {α : Type} {q : Rs α} {f : α → Store → Fl} {Q1 : Rho → Hp → α → Store → Prop} (h : PostF K mg hid ρ H (q.fl env f) D W) (re : RelE K hid ρ H σ env)
    (k : ∀ ρ1 H1 a S1, Ext ρ H ρ1 H1 → RelS K hid ρ1 H1 mg S1 → PostF K mg hid ρ1 H1 (f a S1) D W → Q1 ρ1 H1 a S1) : Post K mg hid ρ H q Q1 fun cls d H' => W cls d σ H' := by
  cases q with
  | ok a S => exact fun ρ1 H1 e1 r1 => k ρ1 H1 a S e1 r1 (PostF.ext e1 h)
  | ex c fs S => exact fun ρ1 H1 cls d e1 r1 x => h ρ1 H1 cls d σ e1 r1 (re.mono e1) x
  | stuck => exact h
theorem PostF.next (h : PostF K mg hid ρ H (.nx env S) D W) (r : RelS K hid ρ H mg S) (re : RelE K hid ρ H σ env) : D.nx σ H := h ρ H σ Ext.refl r re
end
section
variable (X : Cx) (W : WX)
def tS (f : MEnv → Store → Fl) : TS := fun D σ H => ∃ hid ρ env S, RelS X.K hid ρ H X.mg S ∧ RelE X.K hid ρ H σ env ∧ PostF X.K X.mg hid ρ H (f env S) D W
end
section
variable {X : Cx} {W : WX} {σ : L2.St} {H : Hp} {D : Ends} {c a b ce : CE} {cs : CEs} {e tg ea eb ec elt iter : PySem.Expr} {es : List PySem.Expr} {p pos : Pos} {t : Tg} {it : CI} {st : PySem.Stmt} {sts : List PySem.Stmt} {s : CS} {ss : CSs}
theorem tS.fl {α : Type} {f : MEnv → Store → Rs α} {g : MEnv → α → Store → Fl} {R1 : List Addr → Rho → Hp → α → Store → Prop} (h : tS X W (fun env S => (f env S).fl env (g env)) D σ H)
    (k : ∀ hid ρ1 H1 a S1 env, RelS X.K hid ρ1 H1 X.mg S1 → RelE X.K hid ρ1 H1 σ env → PostF X.K X.mg hid ρ1 H1 (g env a S1) D W → R1 hid ρ1 H1 a S1) : Go X W σ H f R1 := by
  obtain ⟨hid, ρ, env, S, r, re, p⟩ := h
  exact ⟨hid, ρ, env, S, r, re, p.fl re fun ρ1 H1 a S1 e1 r1 p1 => k hid ρ1 H1 a S1 env r1 (re.mono e1) p1⟩
theorem b_nil : PSs X [] (tS X W (exs .nil)) := PSs.imp pss_nil fun D σ H h => by
  obtain ⟨hid, ρ, env, S, r, re, p⟩ := h
  exact PostF.next (S := S) (env := env) p r re
theorem b_cons (h1 : PS X st (tS X W (ex s))) (h2 : PSs X sts (tS X W (exs ss))) : PSs X (st :: sts) (tS X W (exs (.cons s ss))) := by
  refine PSs.imp (pss_cons h1 h2) fun D σ H h => ?_
  obtain ⟨hid, ρ, env, S, r, re, p⟩ := h
  have p' : PostF X.K X.mg hid ρ H (match ex s env S with | .nx ρ' S' => exs ss ρ' S' | r => r) D W := p
  refine ⟨hid, ρ, env, S, r, re, ?_⟩
  cases q : ex s env S with
  | nx env' S' =>
    rw [q] at p'
    exact fun ρ1 H1 σ1 e1 r1 re1 => ⟨hid, ρ1, env', S', r1, re1, PostF.ext e1 p'⟩
  | ret d S' => rw [q] at p'; exact p'
  | ex c fs env' S' => rw [q] at p'; exact p'
  | stuck => rw [q] at p'; exact p'
theorem b_frz {i : Nat} (h2 : PSs X sts (tS X W (exs ss))) : PSs X sts (tS X W (exs (.frz i ss))) := by
  refine PSs.imp h2 fun D σ H h => ?_
  obtain ⟨hid, ρ, env, S, r, re, p⟩ := h
  have p' : PostF X.K X.mg hid ρ H (match env[i]? with
    | some (some (.ptr n)) => (match S[n]? with | some (.lst ds) => exs ss (env.set i (some (.lst ds))) (S.set n .dead) | _ => .stuck)
    | _ => .stuck) D W := p
  split at p'
  · rename_i n q
    split at p'
    · rename_i ds q2
      obtain ⟨v, h1, h2⟩ := re.at_ i _ q
      obtain ⟨a, ha, hl, xs, hx, rx⟩ := r.at_ q2 (by simp)
      have ev := h2.ptr_ref ha
      subst ev
      obtain ⟨f1, f2, f3, f4⟩ := r.freeze ha
      refine ⟨hid, _, _, _, f2, ⟨by rw [List.length_set]; exact re.len, fun j d hj => ?_⟩, PostF.ext f1 p'⟩
      by_cases hij : i = j
      · subst hij
        have hlt : i < env.length := (List.getElem?_eq_some_iff.mp q).1
        rw [List.getElem?_set_self hlt] at hj
        cases hj
        exact ⟨_, h1, .lst hx f3 f4 (rx.mono f1)⟩
      · rw [List.getElem?_set_ne hij] at hj
        obtain ⟨w, q1, q2⟩ := re.at_ j d hj
        exact ⟨w, q1, q2.mono f1⟩
    · exact p'.elim
  · exact p'.elim
/-! small ones -/
theorem asg_read (h : tS X W (ex (.asg t c)) D σ H) : tE X W c σ H fun v H' => gOf X.K t v σ H' D.nx := by
  have h' : tS X W (fun env S => (ev c env S).fl env fun d S => (match setT t d env with | some ρ' => .nx ρ' S | none => .stuck)) D σ H := h
  refine h'.fl fun hid ρ1 H1 d S1 env r1 e1 p1 v rv => ?_
  split at p1
  · rename_i env2 hs
    exact set_ok rv e1 hs fun σ2 re2 _ => PostF.next p1 r1 re2
  · exact p1.elim
def isComp : PySem.Expr → Bool
  | .ListComp _ _ _ _ => true
  | .SetComp _ _ _ _ => true
  | .DictComp _ _ _ _ _ => true
  | _ => false
theorem swaps_no {tgt : Option PySem.Expr} {l : Nat} {env : Env} (h : isComp e = false) : swapsWith e tgt l env = pure false := by
  cases e <;> first | rfl | cases h
def isTup : PySem.Expr → Bool
  | .Tuple _ _ _ => true
  | _ => false
theorem stores_no {ts : List PySem.Expr} {env : Env} (h : isTup e = false) : swappedStores ts e env = pure none := by
  cases e <;> first | (cases ts with | nil => rfl | cons x r => cases x <;> first | rfl | (cases r <;> rfl)) | cases h
/-- name = value -/
theorem s_set {i : Nat} {x : Str} {p' : Pos} (hN : X.N.Nodup) (hi : X.N[i]? = some x) (hx : Loc X.env.scope x) (hf : X.fn x = true ∨ X.env.scope.names.lookup x = some .local) (he : PE X e (tE X W c)) (hs : swapsWith e (some (.Name x p')) pos.line X.env = pure false) :
    PS X (.Assign [.Name x p'] e pos) (tS X W (ex (.asg (.name i) c))) := PS.imp (ps_set hN hi hx he hs hf) fun D σ H h => asg_read h
/-- name = [..], stored from within -/
theorem s_setC {i : Nat} {y : Str} {py spos : Pos} {m : Bool} {own : List (Str × Nat)} {co : CO} {scope : Scope} {ifs : List PySem.Expr} (tk : L2N.Takes X W) (hy : X.N[i]? = some y) (hyl : X.env.scope.names.lookup y = some .local)
    (hsw : swapsWith (.ListComp elt [⟨tg, iter, ifs, 0⟩] scope pos) (some (.Name y py)) spos.line X.env = pure true) (C : Comp X scope own t it co ce tg iter elt ifs) :
    PS X (.Assign [.Name y py] (.ListComp elt [⟨tg, iter, ifs, 0⟩] scope pos) spos) (tS X W (ex (.asg (.name i) (.new m (.comp own t it co ce))))) := by
  have h0 := ps_setLc (pos := pos) (spos := spos) C.hc C.hN hy hyl hsw (C.hi W tk) C.ok C.hg C.ht C.he C.hs
  refine PS.imp (PS.or h0 (ps_lock h0)) fun D σ H h => ?_
  rcases comp_lock (new_read (asg_read h)) with q | ⟨d, u, h1, h2, q⟩
  · exact .inl (lc_read C.hsl q)
  · exact .inr ⟨d, u, h1, h2, fun od => lc_read C.hsl (q od)⟩
theorem s_setD {i : Nat} {y : Str} {py spos : Pos} {kx vx : PySem.Expr} {kk vv : CE} {own : List (Str × Nat)} {co : CO} {scope : Scope} {ifs : List PySem.Expr} (tk : L2N.Takes X W) (hy : X.N[i]? = some y) (hyl : X.env.scope.names.lookup y = some .local)
    (hsw : swapsWith (.DictComp kx vx [⟨tg, iter, ifs, 0⟩] scope pos) (some (.Name y py)) spos.line X.env = pure true) (C : CompD X scope own t it co kk vv tg iter kx vx ifs) :
    PS X (.Assign [.Name y py] (.DictComp kx vx [⟨tg, iter, ifs, 0⟩] scope pos) spos) (tS X W (ex (.asg (.name i) (.dcomp own t it co kk vv)))) := by
  have h0 := ps_setDc (pos := pos) (spos := spos) C.hc C.hN hy hyl hsw (C.hi W tk) C.ok C.hg C.ht C.hk C.he C.hs
  refine PS.imp (PS.or h0 (ps_lock h0)) fun D σ H h => ?_
  rcases dc_lock (asg_read h) with q | ⟨d, u, h1, h2, q⟩
  · exact .inl (dc_read C.hsl q)
  · exact .inr ⟨d, u, h1, h2, fun od => dc_read C.hsl (q od)⟩
/-- a, b, .. = a tuple -/
theorem assign_names {env : Env} : ∀ {es : List PySem.Expr}, (es.all fun e => match e with | .Name _ _ => true | _ => false) = true → (assignEach es env).length = es.length ∧ (assignEach es env).findIdx? (·.1) = none
  | [], _ => ⟨rfl, rfl⟩
  | e :: es, h => by
    simp only [List.all_cons, Bool.and_eq_true] at h
    obtain ⟨h1, h2⟩ := assign_names (env := env) h.2
    cases e with
    | Name x q =>
      have e0 : assignEach (.Name x q :: es) env = (false, assign (.Name x q) env) :: assignEach es env := rfl
      rw [e0]
      exact ⟨by rw [List.length_cons, List.length_cons, h1], by simp [List.findIdx?_cons, h2]⟩
    | _ => cases h.1
theorem pg_names (hN : X.N.Nodup) : ∀ {es : List PySem.Expr} {is : List Nat}, es.length = is.length → (∀ (j : Nat) (x : Str) (q : Pos), es[j]? = some (PySem.Expr.Name x q) → ∃ i, is[j]? = some i ∧ X.N[i]? = some x ∧ Loc X.env.scope x ∧ (X.fn x = true ∨ X.env.scope.names.lookup x = some .local)) →
    (es.all fun e => match e with | .Name _ _ => true | _ => false) = true → PGs X es (gNames is)
  | [], [], _, _, _ => pgs_nil
  | e :: es, i :: is, hl, h, ha => by
    simp only [List.all_cons, Bool.and_eq_true] at ha
    cases e with
    | Name x q =>
      obtain ⟨i', h1, h2, h3, h4⟩ := h 0 x q rfl
      cases h1
      refine pgs_cons (pg_name hN h2 h3 h4) (pg_names hN (by simpa using hl) (fun j y q' hj => ?_) ha.2) rfl
      obtain ⟨i2, g1, g2⟩ := h (j + 1) y q' (by simpa using hj)
      exact ⟨i2, by simpa using g1, g2⟩
    | _ => cases ha.1
theorem pg_tg {is : List Nat} {k : Nat} (hc : X.calm = true) (hN : X.N.Nodup) (hl : es.length = is.length) (h : ∀ (j : Nat) (x : Str) (q : Pos), es[j]? = some (.Name x q) → ∃ i, is[j]? = some i ∧ X.N[i]? = some x ∧ Loc X.env.scope x ∧ (X.fn x = true ∨ X.env.scope.names.lookup x = some .local))
    (ha : (es.all fun e => match e with | .Name _ _ => true | _ => false) = true) : PG X (.Tuple es k pos) (gOf X.K (.tup is)) := by
  obtain ⟨h1, h2⟩ := assign_names (env := X.env) ha
  exact pg_tup hc (pg_names hN hl h ha) (by rw [h1, hl]) h2
theorem s_unpack {is : List Nat} {k : Nat} {tp : Pos} (hg : PG X (.Tuple es k tp) (gOf X.K (.tup is))) (he : PE X e (tE X W c)) (h1 : isComp e = false) (h2 : isTup e = false) :
    PS X (.Assign [.Tuple es k tp] e pos) (tS X W (ex (.asg (.tup is) c))) :=
  PS.imp (ps_asg he hg (show swapsWithSole [.Tuple es k tp] e pos.line X.env = pure false from (swaps_no h1 : swapsWith e (some (.Tuple es k tp)) pos.line X.env = pure false)) (stores_no h2)) fun D σ H h => asg_read h
/-- a, b = x, y -/
theorem s_par {i j : Nat} {x y : Str} {px py pt pt2 : Pos} {kt k2 : Nat} (hc : X.calm = true) (hN : X.N.Nodup) (hi : X.N[i]? = some x) (hj : X.N[j]? = some y) (hij : i ≠ j) (hx : X.env.scope.names.lookup x = some .local) (hy : X.env.scope.names.lookup y = some .local)
    (ha : PE X ea (tE X W a)) (hb : PE X eb (tE X W b)) (sa : isStar ea = false) (sb : isStar eb = false) (hw : swappedStores [.Tuple [.Name x px, .Name y py] kt pt] (.Tuple [ea, eb] k2 pt2) X.env = pure (some [x, y])) :
    PS X (.Assign [.Tuple [.Name x px, .Name y py] kt pt] (.Tuple [ea, eb] k2 pt2) pos) (tS X W (ex (.par i j a b))) := by
  refine PS.imp (ps_par hc hN hi hj hij hx hy (pa_cons ha (pa_cons hb pa_nil (star_cons sb _ _)) (star_cons sa _ _)) hw) fun D σ H h => ?_
  have h' : tS X W (fun env S => (ev a env S).fl env fun x S => (ev b env S).fl env fun y S => .nx ((env.set i (some x)).set j (some y)) S) D σ H := h
  refine h'.fl fun hid ρ1 H1 dx S1 env r1 e1 p1 v rv => ?_
  refine ⟨hid, ρ1, env, S1, r1, e1, p1.fl e1 fun ρ2 H2 dy S2 x2 r2 p2 w rw' => ?_⟩
  exact ⟨v, w, rfl, PostF.next p2 r2 (((e1.mono x2).set (rv.mono x2)).set rw')⟩
theorem s_ret (he : PE X e (tE X W c)) : PS X (.Return (some e) pos) (tS X W (ex (.ret c))) := PS.imp (ps_ret he) fun D σ H h => by
  have h' : tS X W (fun env S => (ev c env S).fl env fun d S => .ret d S) D σ H := h
  exact h'.fl fun hid ρ1 H1 d S1 env r1 e1 p1 v rv => p1 ρ1 H1 v Ext.refl r1 rv
theorem s_retN : PS X (.Return none pos) (tS X W (ex .retN)) := PS.imp ps_retN fun D σ H h => by
  obtain ⟨hid, ρ, env, S, r, re, p⟩ := h
  have p' : PostF X.K X.mg hid ρ H (.ret .non S) D W := p
  exact p' ρ H _ Ext.refl r .non
theorem s_pass : PS X (.Pass pos) (tS X W (ex .pass)) := PS.imp ps_pass fun D σ H h => by
  obtain ⟨hid, ρ, env, S, r, re, p⟩ := h
  exact PostF.next (S := S) (env := env) p r re
theorem s_drop (he : PE X e (tE X W c)) (h1 : isComp e = false) : PS X (.Expr e pos) (tS X W (ex (.drop c))) := PS.imp (ps_expr he (swaps_no h1)) fun D σ H h => by
  have h' : tS X W (fun env S => (ev c env S).fl env fun d S => .nx env S) D σ H := h
  exact h'.fl fun hid ρ1 H1 d S1 env r1 e1 p1 v rv => PostF.next p1 r1 e1
theorem s_doc {x : Str} {j : Nat} {q : Pos} : PS X (.Expr (.Constant (.str x) j q) pos) (tS X W (ex .pass)) := PS.imp ps_doc fun D σ H h => by
  obtain ⟨hid, ρ, env, S, r, re, p⟩ := h
  exact PostF.next (S := S) (env := env) p r re
theorem s_aug {i : Nat} {x : Str} {p' : Pos} (hN : X.N.Nodup) (hi : X.N[i]? = some x) (hx : Loc X.env.scope x) (hf : X.fn x = true ∨ X.env.scope.names.lookup x = some .local) (he : PE X e (tE X W c)) : PS X (.AugAssign (.Name x p') .Add e pos) (tS X W (ex (.aug i c))) := by
  refine PS.imp (ps_aug hN hi hx he ip_add hf) fun D σ H h => ?_
  obtain ⟨hid, ρ, env, S, r, re, p⟩ := h
  have p' : PostF X.K X.mg hid ρ H (match env[i]? with
    | some (some (.int x)) => (ev c env S).fl env fun d S => (match d with | .int y => .nx (env.set i (some (.int (x + y)))) S | _ => .stuck)
    | _ => .stuck) D W := p
  split at p'
  · rename_i z q
    obtain ⟨v, h1, h2⟩ := re.at_ i _ q
    cases h2
    refine ⟨_, h1, hid, ρ, env, S, r, re, p'.fl re fun ρ1 H1 d S1 e1 r1 p1 w rw' => ?_⟩
    split at p1
    · cases rw'
      exact ⟨_, _, rfl, rfl, PostF.next p1 r1 ((re.mono e1).set (.int _))⟩
    · exact p1.elim
  · exact p'.elim
theorem s_ifs {as bs : List PySem.Stmt} {ca cb : CSs} (hc : PT X ec (tT X W c)) (ha : PSs X as (tS X W (exs ca))) (hb : PSs X bs (tS X W (exs cb))) : PS X (.If ec as bs pos) (tS X W (ex (.ifs c ca cb))) := by
  refine PS.imp (ps_if hc ha hb) fun D σ H h => ?_
  have h' : tS X W (fun env S => (ev c env S).fl env fun x S => (match x with | .bl true => exs ca env S | .bl false => exs cb env S | _ => .stuck)) D σ H := h
  refine h'.fl fun hid ρ1 H1 d S1 env r1 e1 p1 => ?_
  split at p1
  · exact ⟨true, rfl, hid, ρ1, env, S1, r1, e1, p1⟩
  · exact ⟨false, rfl, hid, ρ1, env, S1, r1, e1, p1⟩
  · exact p1.elim
end
end MI
namespace MI
open PySem PySem.Spec L2
theorem ltL_erase : ∀ (ds : List D) (j n : Nat), ltL ds n = true → ltL (ds.eraseIdx j) n = true
  | [], j, n, h => by simpa using h
  | d :: ds, 0, n, h => by
    have h' : (d.lt n && ltL ds n) = true := h
    rw [Bool.and_eq_true] at h'
    exact h'.2
  | d :: ds, j + 1, n, h => by
    have h' : (d.lt n && ltL ds n) = true := h
    rw [Bool.and_eq_true] at h'
    show (d.lt n && ltL (ds.eraseIdx j) n) = true
    rw [h'.1, ltL_erase ds j n h'.2]
    rfl
theorem RepL.eraseIx {K : PySem.W.Frag} {hid : List Addr} {ρ : Rho} {H : Hp} : ∀ {xs : List V} {ds : List D} (j : Nat), RepL K hid ρ H xs ds → RepL K hid ρ H (xs.eraseIdx j) (ds.eraseIdx j)
  | _, _, j, .nil => by simpa using RepL.nil
  | _, _, 0, .cons h t => t
  | _, _, j + 1, .cons h t => .cons h (RepL.eraseIx j t)
theorem findD_place (x : D) : ∀ (ds : List D) {j : Nat}, findD x ds = some j → SeqAt.dataPlace (pyL ds) x.py = some j
  | [], j, h => by cases h
  | d :: ds, j, h => by
    unfold SeqAt.dataPlace
    simp only [findD] at h
    simp only [pyL, List.findIdx?_cons]
    cases he : eqD d x with
    | none => rw [he] at h; cases h
    | some b =>
      have e := eqD_py d x he
      rw [he] at h
      cases b with
      | true => rw [e]; exact h
      | false =>
        dsimp only at h
        obtain ⟨i, hi, rfl⟩ := Option.map_eq_some_iff.mp h
        have q := findD_place x ds hi
        unfold SeqAt.dataPlace at q
        rw [e, q]
        rfl
theorem plain_fit {d : D} (f : d.fit 50 = true) : d.py.plain = true := PyData.plain_of_canLay0 _ (fit_shape d 50 f).1
theorem plainL_fit {ds : List D} (f : fitL ds 50 = true) : PyData.plainAll (pyL ds) = true := PyData.plainAll_of_canLay0 _ (fitL_shape ds 50 f).1
section
variable {X : Cx} {W : WX} {σ : L2.St} {H : Hp} {D : Ends} {c a b ce : CE} {cs : CEs} {e tg ea eb ec elt iter eo ei : PySem.Expr} {es : List PySem.Expr} {p pos : Pos} {t : Tg} {it : CI} {body : List PySem.Stmt} {ss : CSs}
/-! ### loops -/
def turnF (t : Tg) (b : CSs) (d : MI.D) (ρ : MEnv) (S : Store) : Fl := match setT t d ρ with | some ρ' => exs b ρ' S | none => .stuck
def exF (t : Tg) (it : CI) (b : CSs) (ρ : MEnv) (S : Store) : Fl := (evI it ρ S).fl ρ fun items S => forL (turnF t b) items ρ S
theorem s_for0 (po : PassesOwn (model X.prog X.w) X.A X.env X.xe) (hc : X.calm = true) (hi : PI X tg iter (tI X W it)) (hg : PG X tg (gOf X.K t)) (hb : PSs X body (tS X W (exs ss))) (hs : ∀ x, foldedSetIterable iter X.env x = pure x) :
    PS X (.For tg iter body [] pos) (tS X W (exF t it ss)) := by
  refine PS.imp (ps_for po hc hi hg hb hs) fun D σ H h => ?_
  have h' : tS X W (fun env S => (evI it env S).fl env fun items S => forL (turnF t ss) items env S) D σ H := h
  refine h'.fl fun hid ρ1 H1 items S1 env r1 e1 p1 J wk => ?_
  refine ⟨fun i m σ H => m = items.length - i ∧ i ≤ items.length ∧ ∃ ρi envi Si, Ext ρ1 H1 ρi H ∧ RelS X.K hid ρi H X.mg Si ∧ RelE X.K hid ρi H σ envi ∧ PostF X.K X.mg hid ρi H (forL (turnF t ss) (items.drop i) envi Si) D W,
    ⟨_, rfl, Nat.zero_le _, ρ1, env, S1, Ext.refl, r1, e1, p1⟩, ?_⟩
  rintro i m σ2 H2 ⟨rfl, hle, ρi, envi, Si, xi, ri, rei, pi⟩
  by_cases hlt : i < items.length
  · refine .inr ⟨wk.go i ρi H2 xi hlt, fun σ' H' => i + 1 ≤ items.length ∧ ∃ ρi envi Si, Ext ρ1 H1 ρi H' ∧ RelS X.K hid ρi H' X.mg Si ∧ RelE X.K hid ρi H' σ' envi ∧ PostF X.K X.mg hid ρi H' (forL (turnF t ss) (items.drop (i + 1)) envi Si) D W,
      fun σ' H' n => ⟨items.length - (i + 1), by omega, rfl, n.1, n.2⟩, fun x H3 y => ?_⟩
    obtain ⟨x3, r3, d, hd, rx⟩ := wk.yl i hid ρi H2 Si x H3 xi xi.cv ri hlt y
    have hdrop : items.drop i = d :: items.drop (i + 1) := by
      rw [List.drop_eq_getElem_cons hlt]
      have q : items[i]? = some items[i] := List.getElem?_eq_getElem hlt
      rw [q] at hd
      cases hd
      rfl
    rw [hdrop] at pi
    have pi' : PostF X.K X.mg hid ρi H2 (match (match setT t d envi with | some ρ' => exs ss ρ' Si | none => .stuck) with
      | .nx ρ' S' => forL (turnF t ss) (items.drop (i + 1)) ρ' S'
      | r => r) D W := pi
    cases hset : setT t d envi with
    | none => rw [hset] at pi'; exact pi'.elim
    | some env2 =>
      rw [hset] at pi'
      refine set_ok rx (rei.mono x3) hset fun σ3 re3 _ => ⟨hid, ρi, env2, Si, r3, re3, ?_⟩
      have pi2 : PostF X.K X.mg hid ρi H2 (match exs ss env2 Si with
        | .nx ρ' S' => forL (turnF t ss) (items.drop (i + 1)) ρ' S'
        | r => r) D W := pi'
      cases q : exs ss env2 Si with
      | nx env3 S3 =>
        rw [q] at pi2
        exact fun ρ4 H4 σ4 x4 r4 re4 => ⟨hlt, ρ4, env3, S3, (xi.trans x3).trans x4, r4, re4, PostF.ext (x3.trans x4) pi2⟩
      | ret dd S3 => rw [q] at pi2; exact fun ρ4 H4 v x4 r4 rv => pi2 ρ4 H4 v (x3.trans x4) r4 rv
      | ex cc fs env3 S3 => rw [q] at pi2; exact fun ρ4 H4 cls d' σ' x4 r4 re4 z => pi2 ρ4 H4 cls d' σ' (x3.trans x4) r4 re4 z
      | stuck => rw [q] at pi2; exact pi2.elim
  · have hnil : items.drop i = [] := List.drop_eq_nil_of_le (by omega)
    rw [hnil] at pi
    exact .inl ⟨wk.stop i ρi H2 xi (by omega), PostF.next (S := Si) (env := envi) pi ri rei⟩
theorem s_for (po : PassesOwn (model X.prog X.w) X.A X.env X.xe) (hc : X.calm = true) (hi : PI X tg iter (tI X W it)) (hg : PG X tg (gOf X.K t)) (hb : PSs X body (tS X W (exs ss))) (hs : ∀ x, foldedSetIterable iter X.env x = pure x) :
    PS X (.For tg iter body [] pos) (tS X W (ex (.for_ t it ss))) := by
  have h0 := s_for0 (pos := pos) po hc hi hg hb hs
  refine PS.imp (PS.or h0 (ps_lock h0)) fun D σ H h => ?_
  obtain ⟨hid, ρ, env, S, r, re, p⟩ := h
  have p' : PostF X.K X.mg hid ρ H ((exF t it ss env (lockI it env S).1).unlock (lockI it env S).2) D W := p
  cases q : (lockI it env S).2 with
  | none =>
    rw [q, lock_none q] at p'
    refine .inl ⟨hid, ρ, env, S, r, re, ?_⟩
    cases z : exF t it ss env S with
    | nx env2 S2 => rw [z] at p'; exact p'
    | ret d S2 => rw [z] at p'; exact p'
    | ex cc fs env2 S2 => rw [z] at p'; exact p'
    | stuck => rw [z] at p'; exact p'
  | some l =>
    obtain ⟨n, cc⟩ := l
    rw [q] at p'
    obtain ⟨a, u, L⟩ := lock_open r q
    refine .inr ⟨a, u, L.at_, L.mu, fun od => ?_⟩
    obtain ⟨e1, r1, k⟩ := L.run od
    refine ⟨hid, ρ, env, (lockI it env S).1, r1, re.mono e1, ?_⟩
    cases z : exF t it ss env (lockI it env S).1 with
    | nx env2 S2 =>
      rw [z] at p'
      have p2 : PostF X.K X.mg hid ρ H (match unl (some (n, cc)) S2 with | some S => .nx env2 S | none => .stuck) D W := p'
      intro ρ' H' σ' x r' re'
      split at p2
      · rename_i S3 hs
        have O := k ρ' H' S2 S3 x r' hs
        exact ⟨O.at_, p2 ρ' (upd H' a u) σ' O.ext O.rel ⟨re'.len, fun j d hj => let ⟨v, q1, q2⟩ := re'.at_ j d hj; ⟨v, q1, Rep.conv O.cv d q2⟩⟩⟩
      · exact p2.elim
    | ret d S2 =>
      rw [z] at p'
      have p2 : PostF X.K X.mg hid ρ H (match unl (some (n, cc)) S2 with | some S => .ret d S | none => .stuck) D W := p'
      intro ρ' H' v x r' rv
      split at p2
      · rename_i S3 hs
        have O := k ρ' H' S2 S3 x r' hs
        exact ⟨O.at_, p2 ρ' (upd H' a u) v O.ext O.rel (Rep.conv O.cv d rv)⟩
      · exact p2.elim
    | ex c0 fs env2 S2 =>
      rw [z] at p'
      have p2 : PostF X.K X.mg hid ρ H (.ex c0 fs env2 S2) D W := p'
      exact fun ρ' H' cls d σ' x r' re' xr => p2 ρ' H' cls d σ' (e1.trans x) r' re' xr
    | stuck => rw [z] at p'; exact p'.elim
theorem s_while {n : Nat} (po : PassesOwn (model X.prog X.w) X.A X.env X.xe) (hc : PT X ec (tT X W c)) (hb : PSs X body (tS X W (exs ss))) : PS X (.While ec body [] pos) (tS X W (ex (.while_ n c ss))) := by
  refine PS.imp (ps_while po hc hb) fun D σ H h => ?_
  refine ⟨fun m σ H => ∃ hid ρ env S, RelS X.K hid ρ H X.mg S ∧ RelE X.K hid ρ H σ env ∧ PostF X.K X.mg hid ρ H (whileL (ev c) (exs ss) m env S) D W, ⟨n, h⟩, ?_⟩
  rintro m σ H ⟨hid, ρ, env, S, r, re, p⟩
  cases m with
  | zero => exact p.elim
  | succ m =>
    have p' : PostF X.K X.mg hid ρ H ((ev c env S).fl env fun x S => (match x with
      | .bl true => (match exs ss env S with
        | .nx ρ' S' => whileL (ev c) (exs ss) m ρ' S'
        | r => r)
      | .bl false => .nx env S
      | _ => .stuck)) D W := p
    refine ⟨hid, ρ, env, S, r, re, p'.fl re fun ρ1 H1 x S1 e1 r1 p1 => ?_⟩
    split at p1
    · refine ⟨true, rfl, ?_⟩
      refine iteT ⟨fun σ' H' => ∃ hid ρ env S, RelS X.K hid ρ H' X.mg S ∧ RelE X.K hid ρ H' σ' env ∧ PostF X.K X.mg hid ρ H' (whileL (ev c) (exs ss) m env S) D W, fun σ' H' q => ⟨m, Nat.lt_succ_self _, q⟩, hid, ρ1, env, S1, r1, re.mono e1, ?_⟩
      cases q : exs ss env S1 with
      | nx env3 S3 =>
        rw [q] at p1
        exact fun ρ4 H4 σ4 x4 r4 re4 => ⟨hid, ρ4, env3, S3, r4, re4, PostF.ext x4 p1⟩
      | ret dd S3 => rw [q] at p1; exact p1
      | ex cc fs env3 S3 => rw [q] at p1; exact p1
      | stuck => rw [q] at p1; exact p1
    · exact ⟨false, rfl, iteF (PostF.next p1 r1 (re.mono e1))⟩
    · exact p1.elim
/-! ### stores -/
/-- o[i] = v, by values -/
def rPut (X : Cx) : TSet := fun o i v H Q => ∃ hid ρ S do_ di dv S', RelS X.K hid ρ H X.mg S ∧ Rep X.K hid ρ H o do_ ∧ Rep X.K hid ρ H i di ∧ Rep X.K hid ρ H v dv ∧ (if isDict do_ S then dPut do_ di dv S else putL do_ di dv S) = some S' ∧
  ∀ ρ' H', Ext ρ H ρ' H' → RelS X.K hid ρ' H' X.mg S' → Q H'
theorem ltL_set {dv : MI.D} {n : Nat} : ∀ (ds : List MI.D) (j : Nat), ltL ds n = true → dv.lt n = true → ltL (ds.set j dv) n = true
  | [], _, h, _ => h
  | d :: ds, 0, h, hd => by
    have h' : d.lt n = true ∧ ltL ds n = true := by simpa [ltL] using h
    simp [ltL, hd, h'.2]
  | d :: ds, j + 1, h, hd => by
    have h' : d.lt n = true ∧ ltL ds n = true := by simpa [ltL] using h
    simp [ltL, h'.1, ltL_set ds j h'.2 hd]
theorem ltL_snoc {dv : MI.D} {n : Nat} : ∀ (ds : List MI.D), ltL ds n = true → dv.lt n = true → ltL (ds ++ [dv]) n = true
  | [], _, hd => by simp [ltL, hd]
  | d :: ds, h, hd => by
    have h' : d.lt n = true ∧ ltL ds n = true := by simpa [ltL] using h
    simp [ltL, h'.1, ltL_snoc ds h'.2 hd]
theorem put_ok (hu : X.A.units + 65 < cLine) : PSet X (rPut X) := by
  intro pins s σ H o i v ov iv u Q I ro ri rv h
  obtain ⟨hid, ρ, S, do_, di, dv, S', r, ho, hi, hv, hp, k⟩ := h
  split at hp
  · unfold dPut at hp
    split at hp
    · rename_i n
      split at hp
      · rename_i hlt
        split at hp
        · rename_i kvs q
          split at hp
          · rename_i hz
            obtain ⟨kk, hk, rfl⟩ := Option.map_eq_some_iff.mp hp
            obtain ⟨a, ha, hls, ks, h1, h2⟩ := r.at_ q (by simp)
            have eo := ho.ptr_ref ha
            subst eo
            have ei := toKey_rep hi hk
            subst ei
            cases ro
            have nf : ∀ q u, H a ≠ some (.frz q u) := fun q u z => by rw [h1] at z; cases z
            have hm : some a ∈ ρ := List.mem_of_getElem? ha
            obtain ⟨x1, r1⟩ := r.write (o := .dK (putK ks kk v)) (c := .dK (putD kvs kk dv)) ha nf ⟨putD_lt hls hlt, _, upd_same, kv_put (h2.imp fun d v z => Rep.conv (Cv.cell hm) d z) (Rep.conv (Cv.cell hm) _ hv)⟩
            exact d_setItem (by omega) I (DPut.k h1 (lt_line (by rw [kv_len h2]; exact hz))) ri rv fun s' I' => ⟨_, I', k _ _ x1 r1⟩
          · cases hp
        · rename_i kvs q
          split at hp
          · rename_i hz
            split at hp
            · rename_i ds
              obtain ⟨kk, hk, rfl⟩ := Option.map_eq_some_iff.mp hp
              obtain ⟨a, ha, hls, ks, h1, h2⟩ := r.at_ q (by simp)
              have eo := ho.ptr_ref ha
              subst eo
              cases hi with
              | tup g1 g2 g3 g4 =>
                have ei := toKeys_rep g4 hk
                subst ei
                cases ro
                have nf : ∀ q u, H a ≠ some (.frz q u) := fun q u z => by rw [h1] at z; cases z
                have hm : some a ∈ ρ := List.mem_of_getElem? ha
                obtain ⟨x1, r1⟩ := r.write (o := .dT (putK ks kk v)) (c := .dT (putD kvs kk dv)) ha nf ⟨putD_lt hls hlt, _, upd_same, kv_put (h2.imp fun d v z => Rep.conv (Cv.cell hm) d z) (Rep.conv (Cv.cell hm) _ hv)⟩
                exact d_setItem (by omega) I (DPut.t h1 g1 (lt_line (by rw [kv_len h2]; exact hz))) ri rv fun s' I' => ⟨_, I', k _ _ x1 r1⟩
            · cases hp
          · cases hp
        · cases hp
      · cases hp
    · cases hp
  · unfold putL at hp
    split at hp
    · rename_i n
      split at hp
      · rename_i hlt
        split at hp
        · rename_i ds q
          split at hp
          · rename_i kk
            obtain ⟨j, hj, rfl⟩ := Option.map_eq_some_iff.mp hp
            obtain ⟨a, ha, hls, xs, h1, h2⟩ := r.at_ q (by simp)
            have eo := ho.ptr_ref ha
            subst eo
            cases hi
            have nf : ∀ q u, H a ≠ some (.frz q u) := fun q u z => by rw [h1] at z; cases z
            have hm : some a ∈ ρ := List.mem_of_getElem? ha
            have hl2 := ltL_set ds j hls hlt
            obtain ⟨x1, r1⟩ := r.write (o := .lst (xs.set j v)) (c := .lst (ds.set j dv)) ha nf ⟨hl2, _, upd_same, RepL.set (Rep.conv (Cv.cell hm) _ hv) j (RepL.conv (Cv.cell hm) _ h2)⟩
            exact set_list pins s σ H _ _ v ov iv u Q I ro ri rv ⟨a, xs, kk, j, rfl, rfl, h1, by rw [h2.length]; exact hj, k _ _ x1 r1⟩
          · cases hp
        · cases hp
      · cases hp
    · cases hp
theorem s_put {co ci cv : CE} {p' : Pos} (hu : X.A.units + 65 < cLine) (ho : PE X eo (tE X W co)) (hi : PE X ei (tE X W ci)) (he : PE X e (tE X W cv)) (h1 : isComp e = false) (h2 : isTup e = false) (h3 : isSlice ei = false) :
    PS X (.Assign [.Subscript eo ei p'] e pos) (tS X W (ex (.put co ci cv))) := by
  have hg : PG X (.Subscript eo ei p') (gSub (tE X W co) (tE X W ci) (rPut X)) := pg_sub ho hi (put_ok hu) (by intro v; cases ei <;> first | rfl | cases h3)
  refine PS.imp (ps_asg he hg (show swapsWithSole [.Subscript eo ei p'] e pos.line X.env = pure false from (swaps_no h1 : swapsWith e (some (.Subscript eo ei p')) pos.line X.env = pure false)) (stores_no h2)) fun D σ H h => ?_
  have h' : tS X W (fun env S => (ev cv env S).fl env fun d S => (ev co env S).fl env fun x S => (ev ci env S).fl env fun k S => (match (if isDict x S then dPut x k d S else putL x k d S) with | some S' => .nx env S' | none => .stuck)) D σ H := h
  refine h'.fl fun hid ρ1 H1 d S1 env r1 e1 p1 v rv => ?_
  refine ⟨hid, ρ1, env, S1, r1, e1, p1.fl e1 fun ρ2 H2 x S2 x2 r2 p2 o ro => ?_⟩
  refine ⟨hid, ρ2, env, S2, r2, e1.mono x2, p2.fl (e1.mono x2) fun ρ3 H3 k S3 x3 r3 p3 i ri => ?_⟩
  split at p3
  · rename_i S4 hs
    exact ⟨hid, ρ3, S3, x, k, d, S4, r3, ro.mono x3, ri, rv.mono (x2.trans x3), hs, fun ρ' H' x4 r4 => (PostF.ext x4 p3).next r4 (((e1.mono x2).mono x3).mono x4)⟩
  · exact p3.elim
/-! ### append -/
theorem few_ok {env : Env} {cpos : Pos} (hs : isStar e = false) : ((backTo cpos (starEach [e] env)).all (fun x => !x.1) && (backToKw cpos (keywordEach [] env)).all (fun x => x.1.isSome)
      && decide (([e] : List PySem.Expr).length + ([] : List Keyword).length + (if ([] : List Keyword).isEmpty then 0 else 1) < 30)) = true := by
  rw [star_cons hs]; rfl
def isCall : PySem.Expr → Bool
  | .Call _ _ _ _ => true
  | _ => false
theorem base_no {attr : Str} {env : Env} {whole : Sem Value} (h : isCall eo = false) : attributeBase eo attr env whole = whole := by
  cases eo <;> first | rfl | cases h
theorem s_rem {co cv : CE} {apos cpos : Pos} (hu : X.A.units + 65 < cLine) (ho : PE X eo (tE X W co)) (he : PE X e (tE X W cv)) (hs : isStar e = false) (hb : isCall eo = false) (hl : (apos.endLine == cpos.line) = true) :
    PS X (.Expr (.Call (.Attribute eo "remove" apos) [e] [] cpos) pos) (tS X W (ex (.rem co cv))) := by
  have st := star_cons hs [] X.env
  have q : PE X (.Call (.Attribute eo "remove" apos) [e] [] cpos) (tBM X.K "list" (rRemD X.K) (tE X W co) (tCons (tE X W cv) tNil)) :=
    pe_bm PySem.F.plainAttrs_list PySem.F.slot_list_remove PySem.F.type_list_remove (mt_remD hu) ho (pa_cons he pa_nil st) (base_no hb) (few_ok hs) hl st rfl
  refine PS.imp (ps_expr q) fun D σ H h => ?_
  have h' : tS X W (fun env S => (ev co env S).fl env fun x S => if isCellL x S then (ev cv env S).fl env fun d S => (match remL x d S with | some S' => .nx env S' | none => .stuck) else .stuck) D σ H := h
  refine h'.fl fun hid ρ1 H1 x S1 env r1 e1 p1 o ro => ?_
  split at p1
  · rename_i hcell
    refine ⟨?_, hid, ρ1, env, S1, r1, e1, p1.fl e1 fun ρ2 H2 d S2 x2 r2 p2 v rv => ?_⟩
    · unfold isCellL at hcell
      split at hcell
      · split at hcell
        · rename_i q
          obtain ⟨a, ha, _, xs, hx, _⟩ := r1.at_ q (by simp)
          rw [ro.ptr_ref ha]
          exact .inl ⟨rfl, _, .inl (.inl hx)⟩
        · cases hcell
      · cases hcell
    · split at p2
      · rename_i S3 hs3
        unfold remL at hs3
        split at hs3
        · rename_i n
          split at hs3
          · rename_i ds q
            split at hs3
            · rename_i hf
              rw [Bool.and_eq_true] at hf
              obtain ⟨j, hj, rfl⟩ := Option.map_eq_some_iff.mp hs3
              obtain ⟨a, ha, hls, xs, hx, rl⟩ := r2.at_ q (by simp)
              have eo := (ro.mono x2).ptr_ref ha
              subst eo
              have nf : ∀ q u, H2 a ≠ some (.frz q u) := fun q u z => by rw [hx] at z; cases z
              have hm : some a ∈ ρ2 := List.mem_of_getElem? ha
              obtain ⟨x3, r3⟩ := r2.write (o := .lst (xs.eraseIdx j)) (c := .lst (ds.eraseIdx j)) ha nf ⟨ltL_erase ds j n hls, _, upd_same, (RepL.conv (Cv.cell hm) _ rl).eraseIx j⟩
              have dd := fit_shape d 50 hf.1
              exact ⟨a, xs, v, pyL ds, d.py, j, rfl, rfl, hx, RepL.dp ds 50 rl hf.2, Rep.dp d 50 rv hf.1, plainL_fit hf.2, plain_fit hf.1, by omega, findD_place d ds hj, (PostF.ext x3 p2).next r3 ((e1.mono x2).mono x3)⟩
            · cases hs3
          · cases hs3
        · cases hs3
      · exact p2.elim
  · exact p1.elim
theorem s_cnt {co cv : CE} {apos cpos : Pos} (ho : PE X eo (tE X W co)) (he : PE X e (tE X W cv)) (hs : isStar e = false) (hb : isCall eo = false) (hl : (apos.endLine == cpos.line) = true) :
    PE X (.Call (.Attribute eo "count" apos) [e] [] cpos) (tE X W (.cnt co cv)) := by
  have st := star_cons hs [] X.env
  have q : PE X (.Call (.Attribute eo "count" apos) [e] [] cpos) (tBM X.K "list" (rCntI X.K) (tE X W co) (tCons (tE X W cv) tNil)) :=
    pe_bm PySem.F.plainAttrs_list PySem.F.slot_list_count PySem.F.type_list_count mt_lcount ho (pa_cons he pa_nil st) (base_no hb) (few_ok hs) hl st rfl
  refine PE.imp q fun σ H Q h => ?_
  have h' : Go X W σ H (fun env S => (ev co env S).bind fun x S => if isLstD x then (ev cv env S).bind fun y S => Rs.of (cntM x y) S else .stuck) (fun hid ρ H' d _ => ∀ v, Rep X.K hid ρ H' v d → Q v H') := h
  refine h'.bind fun hid ρ1 H1 x S1 env r1 e1 p1 o ro => ?_
  split at p1
  · rename_i hcell
    cases x with
    | lst ds =>
      cases ro with
      | lst h1 h2 h3 h4 =>
        rename_i a xs
        refine ⟨.inl ⟨rfl, _, .inl (.inl h1)⟩, hid, ρ1, env, S1, r1, e1, p1.bind fun ρ2 H2 d S2 x2 r2 p2 v rv => ?_⟩
        obtain ⟨d', hd, k⟩ := p2.of
        have hd' : cntD ds d = some d' := hd
        unfold cntD at hd'
        split at hd'
        · rename_i n
          obtain ⟨ns, hn, rfl⟩ := Option.map_eq_some_iff.mp hd'
          cases rv
          have e := asInts_rep h4 hn
          subst e
          exact ⟨_, ns, n, rfl, rfl, SqL.of (x2.keep _ _ h1 h2).1, k ρ2 H2 Ext.refl r2 _ (.int _)⟩
        · cases hd'
    | _ => cases hcell
  · exact p1.elim
theorem s_app {co cv : CE} {apos cpos : Pos} (ho : PE X eo (tE X W co)) (he : PE X e (tE X W cv)) (hs : isStar e = false) (hb : isCall eo = false) (hl : (apos.endLine == cpos.line) = true) :
    PS X (.Expr (.Call (.Attribute eo "append" apos) [e] [] cpos) pos) (tS X W (ex (.app co cv))) := by
  have st := star_cons hs [] X.env
  have q : PE X (.Call (.Attribute eo "append" apos) [e] [] cpos) (tBM X.K "list" rAppend (tE X W co) (tCons (tE X W cv) tNil)) :=
    pe_bm PySem.F.plainAttrs_list PySem.F.slot_list_append PySem.F.type_list_append mt_append ho (pa_cons he pa_nil st) (base_no hb) (few_ok hs) hl st rfl
  refine PS.imp (ps_expr q) fun D σ H h => ?_
  have h' : tS X W (fun env S => (ev co env S).fl env fun x S => if isCellL x S then (ev cv env S).fl env fun d S => (match appL x d S with | some S' => .nx env S' | none => .stuck) else .stuck) D σ H := h
  refine h'.fl fun hid ρ1 H1 x S1 env r1 e1 p1 o ro => ?_
  split at p1
  · rename_i hcell
    refine ⟨?_, hid, ρ1, env, S1, r1, e1, p1.fl e1 fun ρ2 H2 d S2 x2 r2 p2 v rv => ?_⟩
    · unfold isCellL at hcell
      split at hcell
      · split at hcell
        · rename_i q
          obtain ⟨a, ha, _, xs, hx, _⟩ := r1.at_ q (by simp)
          rw [ro.ptr_ref ha]
          exact .inl ⟨rfl, _, .inl (.inl hx)⟩
        · cases hcell
      · cases hcell
    · split at p2
      · rename_i S3 hs3
        unfold appL at hs3
        split at hs3
        · rename_i n
          split at hs3
          · rename_i hlt
            split at hs3
            · rename_i ds q
              split at hs3
              · rename_i hz
                cases hs3
                obtain ⟨a, ha, hls, xs, hx, rl⟩ := r2.at_ q (by simp)
                have eo := (ro.mono x2).ptr_ref ha
                subst eo
                have nf : ∀ q u, H2 a ≠ some (.frz q u) := fun q u z => by rw [hx] at z; cases z
                have hm : some a ∈ ρ2 := List.mem_of_getElem? ha
                have hl2 := ltL_snoc ds hls hlt
                obtain ⟨x3, r3⟩ := r2.write (o := .lst (xs ++ [v])) (c := .lst (ds ++ [d])) ha nf ⟨hl2, _, upd_same, (RepL.conv (Cv.cell hm) _ rl).append (.cons (Rep.conv (Cv.cell hm) _ rv) .nil)⟩
                exact ⟨a, xs, v, rfl, rfl, hx, lt_line (by rw [rl.length]; exact hz), (PostF.ext x3 p2).next r3 ((e1.mono x2).mono x3)⟩
              · cases hs3
            · cases hs3
          · cases hs3
        · cases hs3
      · exact p2.elim
  · exact p1.elim
end
end MI
namespace MI
open PySem PySem.Spec L2
/-! ### a def's own cells are dropped -/
structure Sub (n : Nat) (ρ ρ' : Rho) : Prop where
  len : n ≤ ρ'.length
  slot : ∀ k, k < n → ρ'[k]? = ρ[k]?
  mem : ∀ a, some a ∈ ρ' → some a ∈ ρ
section
variable {K : PySem.W.Frag} {mg : Str → Option Value} {hid : List Addr} {ρ ρ' : Rho} {H : Hp} {n : Nat} {S : Store}
mutual
theorem Rep.sub (s : Sub n ρ ρ') : ∀ (d : D) {v : V}, d.lt n = true → Rep K hid ρ H v d → Rep K hid ρ' H v d
  | .non, _, _, h => by cases h; exact .non
  | .bl b, _, _, h => by cases h; exact .bl b
  | .int b, _, _, h => by cases h; exact .int b
  | .str b, _, _, h => by cases h; exact .str b
  | .tup ds, _, l, h => by
    cases h with
    | tup h1 h2 h3 h4 => exact .tup h1 (fun z => h2 (s.mem _ z)) h3 (RepL.sub s ds l h4)
  | .lst ds, _, l, h => by
    cases h with
    | lst h1 h2 h3 h4 => exact .lst h1 (fun z => h2 (s.mem _ z)) h3 (RepL.sub s ds l h4)
  | .con ds, _, l, h => by
    cases h with
    | con h1 h4 => exact .con h1 (RepL.sub s ds l h4)
  | .scr ds, _, l, h => by
    cases h with
    | scr h1 h4 =>
      refine .scr ?_ (RepL.sub s ds l h4)
      rcases h1 with h | ⟨o, p1, p2, p3⟩
      · exact .inl h
      · exact .inr ⟨o, p1, fun z => p2 (s.mem _ z), p3⟩
  | .ptr m, v, l, h => by
    have hm : m < n := by simpa [D.lt] using l
    cases h with
    | ptr h1 h2 => exact .ptr (Nat.lt_of_lt_of_le hm s.len) fun a ha => h2 a (by rw [s.slot m hm] at ha; exact ha)
theorem RepL.sub (s : Sub n ρ ρ') : ∀ (ds : List D) {vs : List V}, ltL ds n = true → RepL K hid ρ H vs ds → RepL K hid ρ' H vs ds
  | [], _, _, h => by cases h; exact .nil
  | d :: ds, _, l, h => by
    have l' : d.lt n = true ∧ ltL ds n = true := by simpa [ltL] using l
    cases h with
    | cons h1 h2 => exact .cons (Rep.sub s d l'.1 h1) (RepL.sub s ds l'.2 h2)
end
theorem RepKV.sub {κ : Type} (s : Sub n ρ ρ') : ∀ {ks : List (κ × V)} {kvs : List (κ × D)}, (∀ kv ∈ kvs, kv.2.lt n = true) → RepKV K hid ρ H ks kvs → RepKV K hid ρ' H ks kvs
  | _, _, _, .nil => .nil
  | _, _, l, .cons q h => .cons ⟨q.1, Rep.sub s _ (l _ List.mem_cons_self) q.2⟩ (RepKV.sub s (fun kv hk => l kv (List.mem_cons_of_mem _ hk)) h)
mutual
theorem D.lt_mono {m n : Nat} (h : m ≤ n) : ∀ (d : D), d.lt m = true → d.lt n = true
  | .non, _ => rfl
  | .bl _, _ => rfl
  | .int _, _ => rfl
  | .str _, _ => rfl
  | .tup ds, l => ltL_mono h ds l
  | .lst ds, l => ltL_mono h ds l
  | .con ds, l => ltL_mono h ds l
  | .scr ds, l => ltL_mono h ds l
  | .ptr k, l => by
    have l' : k < m := by simpa [D.lt] using l
    simp [D.lt]; omega
theorem ltL_mono {m n : Nat} (h : m ≤ n) : ∀ (ds : List D), ltL ds m = true → ltL ds n = true
  | [], _ => rfl
  | d :: ds, l => by
    have l' : d.lt m = true ∧ ltL ds m = true := by simpa [ltL] using l
    simp [ltL, D.lt_mono h d l'.1, ltL_mono h ds l'.2]
end
theorem RepC.sub {m : Nat} {a : Addr} {c : Cell} (s : Sub n ρ ρ') (h : m ≤ n) (r : RepC K hid ρ H mg m a c) : RepC K hid ρ' H mg m a c := by
  cases c with
  | dead => exact r
  | lst ds => obtain ⟨l, xs, e, r⟩ := r; exact ⟨l, xs, e, RepL.sub s ds (ltL_mono h ds l) r⟩
  | lkl ds => obtain ⟨l, xs, o, e, r⟩ := r; exact ⟨l, xs, o, e, RepL.sub s ds (ltL_mono h ds l) r⟩
  | dK ds => obtain ⟨l, xs, e, r⟩ := r; exact ⟨l, xs, e, RepKV.sub s (fun kv hk => D.lt_mono h _ (l kv hk)) r⟩
  | dT ds => obtain ⟨l, xs, e, r⟩ := r; exact ⟨l, xs, e, RepKV.sub s (fun kv hk => D.lt_mono h _ (l kv hk)) r⟩
  | lkd ds => obtain ⟨l, xs, o, e, r⟩ := r; exact ⟨l, xs, o, e, RepKV.sub s (fun kv hk => D.lt_mono h _ (l kv hk)) r⟩
  | lkt ds => obtain ⟨l, xs, o, e, r⟩ := r; exact ⟨l, xs, o, e, RepKV.sub s (fun kv hk => D.lt_mono h _ (l kv hk)) r⟩
  | ins c fs => obtain ⟨l, C, dx, gs, e, m', r⟩ := r; exact ⟨l, C, dx, gs, e, m', RepKV.sub s (fun kv hk => D.lt_mono h _ (l kv hk)) r⟩
theorem sub_take (R : RelS K hid ρ H mg S) (h : n ≤ S.length) : Sub n ρ (ρ.take n) :=
  ⟨by rw [List.length_take, R.len]; omega, fun k hk => List.getElem?_take_of_lt hk, fun a ha => List.mem_of_mem_take ha⟩
theorem RelS.take (R : RelS K hid ρ H mg S) (h : n ≤ S.length) : RelS K hid (ρ.take n) H mg (S.take n) := by
  have s := sub_take R h
  refine ⟨by rw [List.length_take, List.length_take, R.len], fun i j a h1 h2 => ?_, fun m c hc => ?_, fun a ha => ?_⟩
  · rw [List.getElem?_take] at h1 h2
    split at h1
    · split at h2
      · exact R.nd i j a h1 h2
      · cases h2
    · cases h1
  · rw [List.getElem?_take] at hc
    split at hc
    · rename_i hm
      rw [List.getElem?_take_of_lt hm]
      rcases R.cells m c hc with q | ⟨a, q, r⟩
      · exact .inl q
      · exact .inr ⟨a, q, r.sub s (Nat.le_of_lt hm)⟩
    · cases hc
  · obtain ⟨h1, h2⟩ := R.hidd a ha
    exact ⟨h1, fun z => h2 (s.mem a z)⟩
theorem Ext.sub {ρ0 : Rho} {H0 : Hp} (e : Ext ρ0 H0 ρ H) (s : Sub ρ0.length ρ ρ') : Ext ρ0 H0 ρ' H :=
  ⟨s.len, fun k hk => by rw [s.slot k hk]; exact e.slot k hk, fun b o h1 h2 => by
    obtain ⟨q1, q2⟩ := e.keep b o h1 h2
    exact ⟨q1, fun z => q2 (s.mem b z)⟩, e.frz⟩
/-- one cell of the def's own is handed back -/
theorem sub_one {m : Nat} {a : Addr} (R : RelS K hid ρ H mg S) (h : n ≤ S.length) (ha : ρ[m]? = some (some a)) : Sub n ρ (ρ.take n ++ [some a]) := by
  have s := sub_take R h
  refine ⟨by rw [List.length_append]; exact Nat.le_trans s.len (Nat.le_add_right _ _), fun k hk => ?_, fun b hb => ?_⟩
  · rw [List.getElem?_append_left (Nat.lt_of_lt_of_le hk s.len)]
    exact s.slot k hk
  · rcases List.mem_append.mp hb with z | z
    · exact s.mem b z
    · have q : some b = some a := by simpa using z
      rw [q]
      exact List.mem_of_getElem? ha
theorem RelS.one {m : Nat} {a : Addr} {c : Cell} (R : RelS K hid ρ H mg S) (h : n ≤ S.length) (hm : n ≤ m) (ha : ρ[m]? = some (some a)) (rc : RepC K hid (ρ.take n ++ [some a]) H mg n a c) :
    RelS K hid (ρ.take n ++ [some a]) H mg (S.take n ++ [c]) := by
  have s := sub_one R h ha
  have T := R.take h
  have hl : (S.take n).length = n := by rw [List.length_take]; omega
  have hl' : (ρ.take n).length = n := by rw [T.len]; exact hl
  have old : ∀ (i : Nat) (b : Addr), (ρ.take n ++ [some a])[i]? = some (some b) → (i < n ∧ ρ[i]? = some (some b)) ∨ (i = n ∧ b = a) := fun i b hi => by
    by_cases hin : i < n
    · rw [s.slot i hin] at hi; exact .inl ⟨hin, hi⟩
    · rw [List.getElem?_append_right (by omega), hl'] at hi
      have : i - n = 0 := by
        have := (List.getElem?_eq_some_iff.mp hi).1
        simp at this; omega
      rw [this] at hi
      simp at hi
      exact .inr ⟨by omega, hi.symm⟩
  refine ⟨by rw [List.length_append, List.length_append, T.len]; rfl, fun i j b h1 h2 => ?_, fun k c' hc => ?_, fun b hb => ?_⟩
  · rcases old i b h1 with ⟨q1, q2⟩ | ⟨q1, q2⟩ <;> rcases old j b h2 with ⟨p1, p2⟩ | ⟨p1, p2⟩
    · exact R.nd i j b q2 p2
    · subst p2; have := R.nd i m b q2 ha; omega
    · subst q2; have := R.nd j m b p2 ha; omega
    · omega
  · by_cases hk : k < n
    · rw [List.getElem?_append_left (by omega)] at hc
      rw [List.getElem?_take_of_lt hk] at hc
      rw [s.slot k hk]
      rcases R.cells k c' hc with q | ⟨b, q, r⟩
      · exact .inl q
      · exact .inr ⟨b, q, r.sub s (Nat.le_of_lt hk)⟩
    · rw [List.getElem?_append_right (by omega), hl] at hc
      have e : k = n := by
        have := (List.getElem?_eq_some_iff.mp hc).1
        simp at this; omega
      subst e
      rw [Nat.sub_self] at hc
      simp at hc
      subst hc
      refine .inr ⟨a, ?_, rc⟩
      rw [List.getElem?_append_right (by omega), hl', Nat.sub_self]
      rfl
  · obtain ⟨h1, h2⟩ := R.hidd b hb
    exact ⟨h1, fun z => h2 (s.mem b z)⟩
/-- behind a body -/
theorem expo_ok {ρ0 : Rho} {H0 : Hp} {d : D} {v : V} {Q : VK} {W : Value → Option Addr → Hp → Prop} (hn : ρ0.length ≤ S.length) (p : Post K mg hid ρ0 H0 (expo ρ0.length d S) (fun ρ' H' d _ => ∀ v, Rep K hid ρ' H' v d → Q v H') W)
    (e : Ext ρ0 H0 ρ H) (R : RelS K hid ρ H mg S) (r : Rep K hid ρ H v d) : Q v H := by
  unfold expo at p
  split at p
  · rename_i hl
    have s := sub_take R hn
    exact p _ _ (e.sub s) (R.take hn) v (Rep.sub s d hl r)
  · rename_i hl
    split at p
    · rename_i m
      have hm : ρ0.length ≤ m := by
        have : ¬ (m < ρ0.length) := fun z => hl (by simpa [D.lt] using z)
        omega
      split at p
      · rename_i ds q
        split at p
        · rename_i l
          obtain ⟨a, ha, _, xs, h1, h2⟩ := R.at_ q (by simp)
          have s := sub_one R hn ha
          have ev := r.ptr_ref ha
          subst ev
          refine p _ _ (e.sub s) (R.one hn hm ha ⟨l, xs, h1, RepL.sub s ds l h2⟩) _ (.ptr ?_ fun b hb => ?_)
          · have := s.len; rw [List.length_append, (R.take hn).len, List.length_take]; simp; omega
          · have hl' : (ρ.take ρ0.length).length = ρ0.length := by rw [(R.take hn).len, List.length_take]; omega
            rw [List.getElem?_append_right (by omega), hl', Nat.sub_self] at hb
            simp at hb
            rw [hb]
        · exact p.elim
      · rename_i ds q
        split at p
        · rename_i l
          have l : ∀ kv ∈ ds, kv.2.lt ρ0.length = true := by simpa using l
          obtain ⟨a, ha, _, xs, h1, h2⟩ := R.at_ q (by simp)
          have s := sub_one R hn ha
          have ev := r.ptr_ref ha
          subst ev
          refine p _ _ (e.sub s) (R.one hn hm ha ⟨l, xs, h1, RepKV.sub s l h2⟩) _ (.ptr ?_ fun b hb => ?_)
          · have := s.len; rw [List.length_append, (R.take hn).len, List.length_take]; simp; omega
          · have hl' : (ρ.take ρ0.length).length = ρ0.length := by rw [(R.take hn).len, List.length_take]; omega
            rw [List.getElem?_append_right (by omega), hl', Nat.sub_self] at hb
            simp at hb
            rw [hb]
        · exact p.elim
      · rename_i ds q
        split at p
        · rename_i l
          have l : ∀ kv ∈ ds, kv.2.lt ρ0.length = true := by simpa using l
          obtain ⟨a, ha, _, xs, h1, h2⟩ := R.at_ q (by simp)
          have s := sub_one R hn ha
          have ev := r.ptr_ref ha
          subst ev
          refine p _ _ (e.sub s) (R.one hn hm ha ⟨l, xs, h1, RepKV.sub s l h2⟩) _ (.ptr ?_ fun b hb => ?_)
          · have := s.len; rw [List.length_append, (R.take hn).len, List.length_take]; simp; omega
          · have hl' : (ρ.take ρ0.length).length = ρ0.length := by rw [(R.take hn).len, List.length_take]; omega
            rw [List.getElem?_append_right (by omega), hl', Nat.sub_self] at hb
            simp at hb
            rw [hb]
        · exact p.elim
      · exact p.elim
    · exact p.elim
theorem startE {N : List Str} {vs : List V} {ds : List D} (h : RepL K hid ρ H vs ds) (k : ds.length ≤ N.length) : RelE K hid ρ H (L2.start N vs) (ds.map some ++ List.replicate (N.length - ds.length) none) := by
  have hl := h.length
  refine ⟨?_, fun i d hi => ?_⟩
  · unfold L2.start
    simp only [List.length_append, List.length_map, List.length_replicate, hl]
  · by_cases hd : i < ds.length
    · rw [List.getElem?_append_left (by simpa using hd), List.getElem?_map] at hi
      have e : ds[i]? = some d := by
        cases q : ds[i]? with
        | none => rw [q] at hi; cases hi
        | some x => rw [q] at hi; cases hi; rfl
      obtain ⟨v, h1, h2⟩ := h.get e
      refine ⟨v, ?_, h2⟩
      unfold L2.start
      rw [List.getElem?_append_left (by rw [List.length_map, hl]; exact hd), List.getElem?_map, h1]
      rfl
    · rw [List.getElem?_append_right (by simpa using hd), List.getElem?_replicate] at hi
      split at hi <;> cases hi
end
section
variable {P : Program} {w : World} {K : PySem.W.Frag} {mg : Str → Option Value} {base : Heap}
open PyProof.Rows in
theorem fn_ok {x qual : Str} {st : PySem.Stmt} {f : Addr} {fd : FuncData} {N ps : List Str} {lv : Nat} {b : CSs} {kws : List (Str × V)} {dvs : List V} (F : FunD K x qual (defArgs st) (defBody st) (defScope st) dvs kws f fd) (S : FnScope N ps (defScope st))
    (hbody : ∀ (cdv : Value) (A : Around) (outer : List Env) (s : Shared) (H : Hp) (E : XK), Room lv (A.deeper (envOfC qual (defScope st) s.heap.objs.size f cdv)) →
      PSs (cxOf (L2N.CX P w) P w K mg base N qual (defScope st) f cdv A outer s H E) (defBody st) (tS (cxOf (L2N.CX P w) P w K mg base N qual (defScope st) f cdv A outer s H E) (fun cls d _ H => E cls d H) (exs b))) :
    FnOk P w K mg base (L2N.CX P w) (lv + 1) f fd ps (spOf K mg (fnOf ps.length N.length b)) := by
  have hlen : ∀ vs H Q E, spOf K mg (fnOf ps.length N.length b) vs H Q E → vs.length = ps.length := fun vs H Q E ⟨hid, ρ, S0, ds, r, rl, p⟩ => by
    unfold fnOf at p
    split at p
    · rename_i h; rw [rl.length, h]
    · exact p.elim
  have hN : ps.length ≤ N.length := by have := congrArg List.length S.pre; rw [List.length_take] at this; omega
  refine F.ok S hlen fun cdv A outer s H vs Q E hr hsp => ⟨_, hbody cdv A outer s H E hr, ?_⟩
  obtain ⟨hid, ρ, S0, ds, r, rl, p⟩ := hsp
  refine ⟨hid, ρ, ds.map some ++ List.replicate (N.length - ps.length) none, S0, r, ?_, ?_⟩
  · unfold fnOf at p
    split at p
    · rename_i h
      rw [← h]
      exact startE rl (by omega)
    · exact p.elim
  · unfold fnOf at p
    split at p
    · rename_i h
      rw [← r.len] at p
      split at p
      · rename_i env' S' q
        rw [q]
        exact fun ρ' H' σ' e' r' re' => expo_ok (v := .non) (by rw [← r'.len]; exact e'.len) p e' r' .non
      · rename_i d S' q
        rw [q]
        exact fun ρ' H' v e' r' rv => expo_ok (by rw [← r'.len]; exact e'.len) p e' r' rv
      · rename_i c fs env' S' q
        rw [q]
        intro ρ' H' cls d σ' e' r' re' x
        split at p
        · rename_i hl
          have hl : ∀ kv ∈ fs, kv.2.lt ρ.length = true := by simpa using hl
          have hn : ρ.length ≤ S'.length := by rw [← r'.len]; exact e'.len
          have s := sub_take r' hn
          refine p _ _ cls d (e'.sub s) (r'.take hn) ?_
          obtain ⟨C, h1, h2, h3⟩ := x
          refine ⟨C, h1, h2, ?_⟩
          rcases h3 with h3 | ⟨dd, gs, q1, q2, q3⟩
          · exact .inl h3
          · exact .inr ⟨dd, gs, q1, q2, RepKV.sub s hl q3⟩
        · exact p.elim
      · exact p.elim
    · exact p.elim
end
end MI
namespace MI
open PySem PySem.Spec L2 PyProof.Rows
theorem and2 {a b : Bool} (h : (a && b) = true) : a = true ∧ b = true := by simpa using h
/-! ### sorted -/
section
variable {X : Cx} {W : WX}
theorem pyL_map : ∀ ds : List D, pyL ds = ds.map D.py
  | [] => rfl
  | d :: ds => by rw [pyL, pyL_map ds]; rfl
def rSortD (X : Cx) : List V → Hp → VK → Prop := fun vs H Q => ∃ (a : Addr) (xs : List V) (ds : List D) (hid : List Addr) (ρ : Rho), vs = [V.ref a] ∧ SqL X.K H a xs ∧ RepL X.K hid ρ H xs ds ∧ fitL ds 50 = true ∧ alikeAllD ds = true ∧ sortableD ds = true ∧
  ∀ (zs : List V) (p : Addr), RepL X.K hid ρ H zs (ds.mergeSort leD) → H p = none → Q (.ref p) (upd H p (.lst zs))
theorem each_of {K : PySem.W.Frag} {hid : List Addr} {ρ : Rho} {H : Hp} : ∀ {xs : List V} {us : List Value} {ds : List D}, Vals xs us → RepL K hid ρ H xs ds → PySem.W.EachIs (fun (u : Value) (d : D) => ∃ x, RelV x u ∧ Rep K hid ρ H x d) us ds
  | _, _, _, .nil, .nil => .nil
  | _, _, _, .cons r rs, .cons h hs => .cons ⟨_, r, h⟩ (each_of rs hs)
theorem of_each {K : PySem.W.Frag} {hid : List Addr} {ρ : Rho} {H : Hp} : ∀ {us : List Value} {ds : List D}, PySem.W.EachIs (fun (u : Value) (d : D) => ∃ x, RelV x u ∧ Rep K hid ρ H x d) us ds → ∃ xs, Vals xs us ∧ RepL K hid ρ H xs ds
  | _, _, .nil => ⟨[], .nil, .nil⟩
  | _, _, .cons ⟨x, r, h⟩ hs => by
    obtain ⟨xs, r2, h2⟩ := of_each hs
    exact ⟨x :: xs, .cons r r2, .cons h h2⟩
theorem each_reads {pins : List (Addr × Obj)} {σ : L2.St} {H : Hp} {s : Shared} {hid : List Addr} {ρ : Rho} (I : Inv X pins σ H s) : ∀ {xs : List V} {us : List Value} {ds : List D}, Vals xs us → RepL X.K hid ρ H xs ds → fitL ds 50 = true →
    PySem.W.EachIs (fun (u : Value) (d : D) => ∃ as, Reads s.heap u d.py as) us ds
  | _, _, _, .nil, .nil, _ => .nil
  | _, _, _, .cons r rs, .cons (d := d) (ds := ds) h hs, f => by
    have f' : d.fit 50 = true ∧ fitL ds 50 = true := by simpa [fitL] using f
    exact .cons (Dp.reads I _ _ _ (Rep.dp _ 50 h f'.1) r) (each_reads I rs hs f'.2)
theorem fitL_mem {n : Nat} : ∀ {ds : List D} {d : D}, fitL ds n = true → d ∈ ds → d.fit n = true
  | e :: ds, d, f, h => by
    have f' : e.fit n = true ∧ fitL ds n = true := by simpa [fitL] using f
    rcases List.mem_cons.mp h with q | q
    · rw [q]; exact f'.1
    · exact fitL_mem f'.2 q
theorem cr_sortedD (hu : X.A.units + 65 < cLine) : CallR X (.builtin "sorted") (rSortD X) := by
  intro pins s σ H vs us Q I r h
  obtain ⟨a, xs, ds, hid, ρ, rfl, hs, rl, hf, hal, hsb, q⟩ := h
  obtain ⟨its, rv, hl, hz⟩ := I.list hs
  rw [Vals.ref1 r]
  have lds : its.length = ds.length := by rw [← rv.length, rl.length]
  refine PySem.W.sorted_data (enc := D.py) hl.isList (each_of rv rl) (each_reads I rv rl hf) ?al ?so (by rw [← lds, ← rv.length]; exact hz) (fun d hd => ?dep) fun out ho eo => ?fin
  case al =>
    intro x hx y hy
    obtain ⟨d, hd, rfl⟩ := List.mem_map.mp hx
    obtain ⟨e, he, rfl⟩ := List.mem_map.mp hy
    have h1 := List.all_eq_true.mp hal d hd
    exact List.all_eq_true.mp h1 e he
  case so =>
    rcases Bool.or_eq_true_iff.mp hsb with h | h
    · refine .inl fun x hx => ?_
      obtain ⟨d, hd, rfl⟩ := List.mem_map.mp hx
      have h1 := List.all_eq_true.mp h d hd
      cases d with
      | tup l => cases l with
        | nil => simp at h1
        | cons e l => exact ⟨_, _, rfl⟩
      | _ => simp at h1
    · refine .inr fun x hx => ?_
      obtain ⟨d, hd, rfl⟩ := List.mem_map.mp hx
      have h1 := List.all_eq_true.mp h d hd
      have h2 := fitL_mem hf hd
      cases d with
      | non => simp at h1
      | tup l => simp at h1
      | con l => simp [D.fit] at h2
      | ptr l => simp [D.fit] at h2
      | _ => exact ⟨by simp [D.py], fun xs => by simp [D.py]⟩
  case dep =>
    have := (fit_shape d 50 (fitL_mem hf hd)).2
    omega
  case fin =>
    obtain ⟨zs, rz, lz⟩ := of_each eo
    obtain ⟨ep, he'⟩ := PyProof.Rows.sortedAll_at s.heap its out.toArray
    have hlen : zs.length ≤ sizeLine := by rw [rz.length, ho, ← lds, ← rv.length]; exact hz
    exact ⟨.ref _, upd H (s.heap.objs.size + 1) (.lst zs), I.laid (t' := s.toks) (fun _ _ => PyProof.Rows.sortedAll_old) (Nat.le_succ _) ⟨hlen, out, ep, rz, he'⟩, rfl, q _ _ lz (I.hok.fresh (Nat.le_succ _))⟩
theorem s_sorted {a : CE} {ea : PySem.Expr} {p pos : Pos} (hu : X.A.units + 65 < cLine) (hg : Gl X "sorted") (hm : X.mg "sorted" = none) (ha : PE X ea (tE X W a)) (hs : isStar ea = false) :
    PE X (.Call (.Name "sorted" p) [ea] [] pos) (tL X W (.sorted a)) := by
  refine PE.imp (pe_callB (cr_sortedD hu) hg hm (by decide +kernel) (pa_cons ha pa_nil (star_cons hs [] X.env)) (by decide) (by decide) (star_cons hs [] X.env) (back_none pos (star_none X.env rfl))) fun σ H Q h => ?_
  have h' : Go X W σ H (fun env S => (ev a env S).bind fun x S => (match x with
    | .tup _ => .stuck
    | .con _ => .stuck
    | x => (match seqOf x S with
      | some ds => if fitL ds 50 && alikeAllD ds && sortableD ds then .ok (ds.mergeSort leD) S else .stuck
      | none => .stuck))) (fun hid ρ H' ds _ => ∀ xs p, RepL X.K hid ρ H' xs ds → H' p = none → Q (.ref p) (upd H' p (.lst xs))) := h
  refine h'.bind fun hid ρ1 H1 x S1 env r1 e1 p1 v rv => ?_
  have key : (∀ es, x ≠ .tup es) ∧ (∀ es, x ≠ .con es) ∧ Post X.K X.mg hid ρ1 H1 (match seqOf x S1 with
      | some ds => if fitL ds 50 && alikeAllD ds && sortableD ds then .ok (ds.mergeSort leD) S1 else .stuck
      | none => .stuck) (fun ρ H' ds _ => ∀ xs p, RepL X.K hid ρ H' xs ds → H' p = none → Q (.ref p) (upd H' p (.lst xs))) (fun cls d H' => W cls d σ H') := by
    cases x with
    | tup es => exact p1.elim
    | con es => exact p1.elim
    | _ => exact ⟨(fun es z => by cases z), (fun es z => by cases z), p1⟩
  obtain ⟨nt, nc, p2⟩ := key
  split at p2
  · rename_i ds q
    split at p2
    · rename_i hc
      obtain ⟨ad, xs, rfl, hs, rl⟩ := lst_rep r1 rv q nt nc
      obtain ⟨hc1, hc3⟩ := and2 hc
      obtain ⟨hc1, hc2⟩ := and2 hc1
      exact ⟨ad, xs, ds, hid, ρ1, rfl, hs, rl, hc1, hc2, hc3, fun zs p lz hp => p2 _ _ Ext.refl r1 zs p lz hp⟩
    · exact p2.elim
  · exact p2.elim
/-! ### list -/
theorem s_list {a : CE} {ea : PySem.Expr} {p pos : Pos} (hg : Gl X "list") (hm : X.mg "list" = none) (ha : PE X ea (tE X W a)) (hs : isStar ea = false) :
    PE X (.Call (.Name "list" p) [ea] [] pos) (tL X W (.list a)) := by
  refine PE.imp (pe_callTy call_list_of hg hm (by decide +kernel) (pa_cons ha pa_nil (star_cons hs [] X.env)) (by decide) (by decide) (star_cons hs [] X.env) (back_none pos (star_none X.env rfl))) fun σ H Q h => ?_
  have h' : Go X W σ H (fun env S => (ev a env S).bind fun x S => Rs.of (seqOf x S) S) (fun hid ρ H' ds _ => ∀ xs p, RepL X.K hid ρ H' xs ds → H' p = none → Q (.ref p) (upd H' p (.lst xs))) := h
  refine h'.bind fun hid ρ1 H1 x S1 env r1 e1 p1 v rv => ?_
  obtain ⟨ds, q, k⟩ := p1.of
  obtain ⟨ad, xs, rfl, hs, rl⟩ := seq_rep r1 rv q
  exact ⟨ad, xs, rfl, hs, fun l hl => k ρ1 H1 Ext.refl r1 xs l rl hl⟩
/-! ### a list the other way round; two lists in one -/
theorem repL_rev {K : PySem.W.Frag} {hid : List Addr} {ρ : Rho} {H : Hp} : ∀ {xs : List V} {ds : List D}, RepL K hid ρ H xs ds → RepL K hid ρ H xs.reverse ds.reverse
  | [], _, h => by cases h; exact .nil
  | x :: xs, _, h => by
    cases h with
    | cons h1 h2 => rw [List.reverse_cons, List.reverse_cons]; exact (repL_rev h2).append (.cons h1 .nil)
theorem s_lrng {a b : CE} {ea eb : PySem.Expr} {p p2 pos2 pos : Pos} (hc : X.calm = true) (hg : Gl X "list") (hm : X.mg "list" = none) (hg2 : Gl X "range") (hm2 : X.mg "range" = none) (ha : PE X ea (tE X W a)) (hb : PE X eb (tE X W b)) (sa : isStar ea = false) (sb : isStar eb = false) :
    PE X (.Call (.Name "list" p) [.Call (.Name "range" p2) [ea, eb] [] pos2] [] pos) (tL X W (.lrng a b)) := by
  refine PE.imp (pe_listRg hc hg hm (prg_2 hg2 hm2 ha hb (star_cons sa _ X.env) (star_cons sb _ X.env) (back_none pos2 (star_none X.env (by simpa using sb)))) (star_cons rfl _ X.env)) fun σ H Q h => ?_
  have h' : Go X W σ H (fun env S => (ev a env S).bind fun x S => (ev b env S).bind fun y S => lrngM x y S) (fun hid ρ H' ds _ => ∀ xs p, RepL X.K hid ρ H' xs ds → H' p = none → Q (.ref p) (upd H' p (.lst xs))) := h
  refine h'.bind fun hid ρ1 H1 x S1 env r1 e1 p1 v rv => ?_
  refine ⟨hid, ρ1, env, S1, r1, e1, p1.bind fun ρ2 H2 y S2 x2 r2 p2 w rw' => ?_⟩
  unfold lrngM at p2
  split at p2
  · rename_i i
    split at p2
    · rename_i j
      split at p2
      · rename_i hs
        obtain ⟨s1, s2⟩ := Bool.and_eq_true_iff.mp hs
        obtain ⟨s2, s3⟩ := Bool.and_eq_true_iff.mp s2
        have s1 := of_decide_eq_true s1
        have s2 := of_decide_eq_true s2
        have s3 := of_decide_eq_true s3
        cases rv
        cases rw'
        have q2 := p2.here r2
        refine ⟨i, j, rfl, rfl, ⟨by omega, by omega, by omega, by omega, by omega⟩, fun q hq => q2 (rgV i j) q ?_ hq⟩
        have : ∀ l : List Nat, RepL X.K hid ρ2 H2 (l.map fun n => V.int (i + (n : Nat))) (l.map fun n => D.int (i + (n : Nat))) := fun l => by
          induction l with
          | nil => exact .nil
          | cons n l ih => exact .cons (.int _) ih
        exact this _
      · exact p2.elim
    · exact p2.elim
  · exact p2.elim
theorem repL_at {K : PySem.W.Frag} {hid : List Addr} {ρ : Rho} {H : Hp} : ∀ {xs : List V} {ds : List D}, RepL K hid ρ H xs ds → ∀ j : Nat, (xs[j]? = none ∧ ds[j]? = none) ∨ ∃ x d, xs[j]? = some x ∧ ds[j]? = some d ∧ Rep K hid ρ H x d
  | _, _, .nil, j => .inl ⟨rfl, rfl⟩
  | _, _, .cons r rs, 0 => .inr ⟨_, _, rfl, rfl, r⟩
  | _, _, .cons r rs, j + 1 => by
    rcases repL_at rs j with ⟨h1, h2⟩ | ⟨x, d, h1, h2, h3⟩
    · exact .inl ⟨by simpa using h1, by simpa using h2⟩
    · exact .inr ⟨x, d, by simpa using h1, by simpa using h2, h3⟩
theorem repL_places {K : PySem.W.Frag} {hid : List Addr} {ρ : Rho} {H : Hp} {xs : List V} {ds : List D} (h : RepL K hid ρ H xs ds) : ∀ js : List Nat, RepL K hid ρ H (js.filterMap (xs[·]?)) (js.filterMap (ds[·]?))
  | [] => .nil
  | j :: js => by
    have ih := repL_places h js
    rcases repL_at h j with ⟨h1, h2⟩ | ⟨x, d, h1, h2, h3⟩
    · rw [List.filterMap_cons, List.filterMap_cons, h1, h2]; exact ih
    · rw [List.filterMap_cons, List.filterMap_cons, h1, h2]; exact .cons h3 ih
theorem vals_places {xs : List V} {us : List Value} (h : Vals xs us) : ∀ js : List Nat, Vals (js.filterMap (xs[·]?)) (js.filterMap (us[·]?))
  | [] => .nil
  | j :: js => by
    have ih := vals_places h js
    have at_ : ∀ {xs : List V} {us : List Value}, Vals xs us → ∀ j : Nat, (xs[j]? = none ∧ us[j]? = none) ∨ ∃ x d, xs[j]? = some x ∧ us[j]? = some d ∧ RelV x d := by
      intro xs us h
      induction h with
      | nil => exact fun j => .inl ⟨rfl, rfl⟩
      | cons r rs ih2 =>
        intro j
        cases j with
        | zero => exact .inr ⟨_, _, rfl, rfl, r⟩
        | succ j =>
          rcases ih2 j with ⟨h1, h2⟩ | ⟨x, d, h1, h2, h3⟩
          · exact .inl ⟨by simpa using h1, by simpa using h2⟩
          · exact .inr ⟨x, d, by simpa using h1, by simpa using h2, h3⟩
    rcases at_ h j with ⟨h1, h2⟩ | ⟨x, d, h1, h2, h3⟩
    · rw [List.filterMap_cons, List.filterMap_cons, h1, h2]; exact ih
    · rw [List.filterMap_cons, List.filterMap_cons, h1, h2]; exact .cons h3 ih
def plcV (k : Nat) (xs : List V) : List V := (PySem.sliceRange (PySem.sliceBounds none none (some (k : Int)) xs.length).1 (PySem.sliceBounds none none (some (k : Int)) xs.length).2.1 (PySem.sliceBounds none none (some (k : Int)) xs.length).2.2).filterMap (xs[·]?)
def tStepL (K : PySem.W.Frag) (k : Nat) (te : TE) : TE := fun σ H Q => te σ H fun x H1 => ∃ a xs, x = .ref a ∧ SqL K H1 a xs ∧ ∀ p, H1 p = none → Q (.ref p) (upd H1 p (.lst (plcV k xs)))
open PyProof.Rows in
theorem pe_stepL {e : PySem.Expr} {te : TE} {k j : Nat} {p1 p3 pos : Pos} (hk : 0 < k) (he : PE X e te) : PE X (.Subscript e (.Slice none none (some (.Constant (.int (k : Int)) j p1)) p3) pos) (tStepL X.K k te) := by
  refine ⟨fun pins s σ H Q I h => ?_⟩
  refine Subscript_ (thn (he.run pins s σ H _ I h) fun v s1 ⟨x, H1, I1, r1, q1⟩ => ?_)
  obtain ⟨a, xs, ex, hx, q⟩ := q1
  subst ex
  cases r1
  have hst : PO X (some (.Constant (.int (k : Int)) j p1)) (tPart (tC (.int (k : Int)))) := po_some pe_int
  refine wpAny_Slice (thn (po_none.run pins s1 σ H1 (fun o H2 => o = none ∧ H2 = H1) I1 ⟨rfl, rfl⟩) fun vl s2 ⟨l, H2, I2, pl, el, e2⟩ => ?_)
  subst el e2
  refine thn (po_none.run pins s2 σ H2 (fun o H3 => o = none ∧ H3 = H2) I2 ⟨rfl, rfl⟩) fun vu s3 ⟨u, H3, I3, pu, eu, e3⟩ => ?_
  subst eu e3
  refine thn (hst.run pins s3 σ H3 (fun o H4 => o = some (k : Int) ∧ H4 = H3) I3 ⟨(k : Int), rfl, rfl, rfl⟩) fun vs s4 ⟨o, H4, I4, ps, eo, e4⟩ => ?_
  subst eo e4
  have I5 : Inv X pins σ H4 { s4 with heap := s4.heap.push { cls := .type "slice", data := .fields #[vl, vu, vs] } } := I4.kept (t' := s4.toks) fun b ob q => Heap.get?_push_of_some _ q
  obtain ⟨its, r, ht, hz⟩ := I5.list hx
  have hlen := r.length
  show wpAny (model X.prog X.w) X.A (subscriptTail e (.Slice none none (some (.Constant (.int (k : Int)) j p1)) p3) (.ref a) (.ref s4.heap.objs.size)) (EP X pins σ Q) X.xe { s4 with heap := s4.heap.push { cls := .type "slice", data := .fields #[vl, vu, vs] } }
  refine tail_any (ops := [.ref a, .ref s4.heap.objs.size]) ht.isList.typeIs (PySem.slot_list_getitem.lookup) ?_ (by with_unfolding_all rfl)
  refine wpAny_getItem_list_slice ht.isList (Heap.IsSliceOf.new _ vl vu vs) pl pu ps (by simp; omega) ?_ (by rw [List.size_toArray]; omega)
  have e : (slicePick its.toArray none none (some (k : Int))).toList = (sliceRange (sliceBounds none none (some (k : Int)) xs.length).1 (sliceBounds none none (some (k : Int)) xs.length).2.1 (sliceBounds none none (some (k : Int)) xs.length).2.2).filterMap (its[·]?) := by
    simp [slicePick, hlen]
  have vv : Vals (plcV k xs) (slicePick its.toArray none none (some (k : Int))).toList := by rw [e]; exact vals_places r _
  have hsz := slicePick_size_le its.toArray none none (some (k : Int))
  refine ⟨.ref _, _, I5.laid (t' := s4.toks) (o := .lst (plcV k xs)) (fun b ob q => Heap.get?_push_of_some _ q) (Nat.le_refl _) ?_, rfl, q _ (I5.hok.fresh (Nat.le_refl _))⟩
  exact ⟨by rw [vv.length, Array.length_toList]; have h2 : its.toArray.size = its.length := List.size_toArray; omega, _, 0, vv, Heap.get?_push_size _ rfl⟩
theorem s_stp {a : CE} {ea : PySem.Expr} {k j : Nat} {p1 p3 pos : Pos} (hk : 0 < k) (ha : PE X ea (tE X W a)) :
    PE X (.Subscript ea (.Slice none none (some (.Constant (.int (k : Int)) j p1)) p3) pos) (tL X W (.stp a k)) := by
  refine PE.imp (pe_stepL hk ha) fun σ H Q h => ?_
  have h' : Go X W σ H (fun env S => (ev a env S).bind fun x S => stpM k x S) (fun hid ρ H' ds _ => ∀ xs p, RepL X.K hid ρ H' xs ds → H' p = none → Q (.ref p) (upd H' p (.lst xs))) := h
  refine h'.bind fun hid ρ1 H1 x S1 env r1 e1 p1 v rv => ?_
  unfold stpM at p1
  split at p1
  · rw [if_pos hk] at p1
    cases rv with
    | lst h1 _ _ h4 =>
      refine ⟨_, _, rfl, .inl (.inl h1), fun l hl => p1.here r1 (plcV k _) l ?_ hl⟩
      have el := h4.length
      unfold plcV stepL
      rw [el]
      exact repL_places h4 _
  · exact p1.elim
theorem s_rev {a : CE} {ea : PySem.Expr} {k : _} {p1 p2 p3 pos : Pos} (ha : PE X ea (tE X W a)) :
    PE X (.Subscript ea (.Slice none none (some (.UnaryOp .USub (.Constant (.int 1) k p1) p2)) p3) pos) (tL X W (.rev a)) := by
  refine PE.imp (pe_revL ha) fun σ H Q h => ?_
  have h' : Go X W σ H (fun env S => (ev a env S).bind fun x S => (match x with
      | D.tup _ => Rs.stuck
      | D.con _ => Rs.stuck
      | x => Rs.of ((seqOf x S).map List.reverse) S)) (fun hid ρ H' ds _ => ∀ xs p, RepL X.K hid ρ H' xs ds → H' p = none → Q (.ref p) (upd H' p (.lst xs))) := h
  refine h'.bind fun hid ρ1 H1 x S1 env r1 e1 p1 v rv => ?_
  have main : ∀ (nt : ∀ es, x ≠ .tup es) (nc : ∀ es, x ≠ .con es) (p : Post X.K X.mg hid ρ1 H1 (Rs.of ((seqOf x S1).map List.reverse) S1) (fun ρ H' ds _ => ∀ xs p, RepL X.K hid ρ H' xs ds → H' p = none → Q (.ref p) (upd H' p (.lst xs))) (fun cls d H' => W cls d σ H')),
      ∃ a xs, v = .ref a ∧ SqL X.K H1 a xs ∧ ∀ p, H1 p = none → Q (.ref p) (upd H1 p (.lst xs.reverse)) := fun nt nc p1 => by
    obtain ⟨ds, q, k⟩ := p1.of
    obtain ⟨es, q1, q2⟩ := Option.map_eq_some_iff.mp q
    subst q2
    obtain ⟨ad, xs, rfl, hs, rl⟩ := lst_rep r1 rv q1 nt nc
    exact ⟨ad, xs, rfl, hs, fun l hl => k ρ1 H1 Ext.refl r1 xs.reverse l (repL_rev rl) hl⟩
  cases x with
  | tup _ => exact p1.elim
  | con _ => exact p1.elim
  | _ => exact main (fun _ z => by cases z) (fun _ z => by cases z) p1
def rL (X : Cx) : R2 := fun x y H Q => ∃ hid ρ S dx dy as bs, RelS X.K hid ρ H X.mg S ∧ Rep X.K hid ρ H x dx ∧ Rep X.K hid ρ H y dy ∧ dsOf dx S = some as ∧ dsOf dy S = some bs ∧ as.length + bs.length ≤ 1000000 ∧
  ∀ xs p, RepL X.K hid ρ H xs (as ++ bs) → H p = none → Q (.ref p) (upd H p (.lst xs))
theorem ds_of {d : D} {S : Store} {ds : List D} (h : dsOf d S = some ds) : d = .lst ds ∨ ∃ n, d = .ptr n ∧ S[n]? = some (.lst ds) := by
  unfold dsOf at h
  split at h
  · cases h; exact .inl rfl
  · split at h
    · rename_i q; cases h; exact .inr ⟨_, rfl, q⟩
    · cases h
  · cases h
theorem opL : OpR X (binaryOp .Add) (rL X) := by
  intro pins s σ H x y v u Q I rx ry h
  obtain ⟨hid, ρ, S, dx, dy, as, bs, r, hx, hy, e1, e2, hz, k⟩ := h
  obtain ⟨a, xs, rfl, h1, l1⟩ := lst_at r hx (ds_of e1)
  obtain ⟨b, ys, rfl, h2, l2⟩ := lst_at r hy (ds_of e2)
  exact op_cat pins s σ H _ _ v u Q I rx ry ⟨a, b, xs, ys, rfl, rfl, h1, h2, le_line (by rw [l1.length, l2.length]; exact hz), fun p hp => k _ p (l1.append l2) hp⟩
theorem s_cat {a b : CE} {ea eb : PySem.Expr} {pos : Pos} (ha : PE X ea (tE X W a)) (hb : PE X eb (tE X W b)) : PE X (.BinOp ea .Add eb pos) (tL X W (.cat a b)) := by
  refine PE.imp (pe_op opL ha hb) fun σ H Q h => ?_
  have h' : Go X W σ H (fun env S => (ev a env S).bind fun x S => (ev b env S).bind fun y S => (match dsOf x S with
      | some xs => (match dsOf y S with
        | some ys => if xs.length + ys.length ≤ 1000000 then Rs.ok (xs ++ ys) S else .stuck
        | none => .stuck)
      | none => .stuck)) (fun hid ρ H' ds _ => ∀ xs p, RepL X.K hid ρ H' xs ds → H' p = none → Q (.ref p) (upd H' p (.lst xs))) := h
  refine h'.bind fun hid ρ1 H1 dx S1 env r1 e1 p1 x rx => ?_
  refine ⟨hid, ρ1, env, S1, r1, e1, p1.bind fun ρ2 H2 dy S2 ex r2 p2 y ry => ?_⟩
  cases q1 : dsOf dx S2 with
  | none => rw [q1] at p2; exact p2.elim
  | some as =>
    rw [q1] at p2
    cases q2 : dsOf dy S2 with
    | none => rw [q2] at p2; exact p2.elim
    | some bs =>
      rw [q2] at p2
      by_cases hz : as.length + bs.length ≤ 1000000
      · have p2' : Post X.K X.mg hid ρ2 H2 (if as.length + bs.length ≤ 1000000 then Rs.ok (as ++ bs) S2 else .stuck) _ _ := p2
        rw [if_pos hz] at p2'
        obtain ⟨_, q, k⟩ := (show Post X.K X.mg hid ρ2 H2 (Rs.of (some (as ++ bs)) S2) _ _ from p2').of
        cases q
        exact ⟨hid, ρ2, S2, dx, dy, as, bs, r2, rx.mono ex, ry, q1, q2, hz, fun xs p rl hp => k ρ2 H2 Ext.refl r2 xs p rl hp⟩
      · have p2' : Post X.K X.mg hid ρ2 H2 (if as.length + bs.length ≤ 1000000 then Rs.ok (as ++ bs) S2 else .stuck) _ _ := p2
        rw [if_neg hz] at p2'
        exact p2'.elim
/-! ### list(d.keys()) -/
def tLK (td : TE) : TE := fun σ H Q => td σ H fun x H1 => ∃ d, x = .ref d ∧ ((∃ kvs, Rd H1 d (.dK kvs) ∧ ∀ p, H1 p = none → Q (.ref p) (upd H1 p (.lst (kvs.map fun kv => kV kv.1)))) ∨
  ∃ kvs, Rd H1 d (.dT kvs) ∧ ∀ p bs, H1 p = none → IsKeys H1 kvs bs → Q (.ref p) (upd H1 p (.lst (bs.map V.ref))))
theorem pe_listKeys {td : TE} {eo : PySem.Expr} {p pos apos cpos : Pos} (hc : X.calm = true) (hg : Gl X "list") (hm : X.mg "list" = none) (ho : PE X eo td) (hbase : attributeBase eo "keys" X.env (eval eo X.env) = eval eo X.env) (hline : (apos.endLine == cpos.line) = true) :
    PE X (.Call (.Name "list" p) [.Call (.Attribute eo "keys" apos) [] [] cpos] [] pos) (tLK td) := by
  refine ⟨fun pins s σ H Q I h => ?_⟩
  refine wpAny_Call_Name_kw (ld_blt I hg hm (show bootBuiltins ("list" : Str) = some (.type "list") by decide +kernel) ?_ (by decide) (by decide))
  refine PyProof.Rows.callWith_type1 ?_ (star_cons rfl [] X.env) (back_none pos (star_none X.env rfl))
  rw [star_cons rfl [] X.env]
  show wpAny _ _ (spliced ((false, eval _ X.env) :: backTo pos (starEach [] X.env))) _ _ s
  refine PySem.Calls.spliced_cons ?_
  refine wpAny_Call_method (T := "dict") (id := "dict.keys") hbase rfl hline F.plainAttrs_dict F.slot_dict_keys F.type_dict_keys (thn (ho.run pins s σ H _ I h) fun u s1 ⟨x, H1, I1, rx, d, ex, q⟩ => ?_)
  subst ex
  obtain rfl : u = Value.ref d := rx
  have I2 : Inv X pins σ H1 { s1 with heap := s1.heap.push { cls := .type "dict_keys", data := .fields #[.ref d] } } := I1.kept (t' := s1.toks) fun b ob q => Heap.get?_push_of_some _ q
  rcases q with ⟨kvs, hd, q⟩ | ⟨kvs, hd, q⟩
  · obtain ⟨z, lo, vs, rel, dd⟩ := dk_rd I1.hok hd
    obtain ⟨ep, hat⟩ := dd.dictAt
    refine ⟨dd.typeIs, dd.mapOf.noDict, ?_⟩
    have ek : (kvs.map fun kv => kV kv.1) = vs.map fun p => kV p.1 := by
      have e := congrArg (List.map kV) rel.keys
      rw [List.map_map, List.map_map] at e
      exact e
    show wpAny _ _ (callWith cpos (.builtin "dict.keys") [.ref d] [] []) _ X.xe s1
    refine method_meetsIn F.slot_dict_keys F.entry_dict_keys rfl (PySem.evalArgs_none ⟨rfl, dd.typeIs, F.args_dict_keys_1 _, _, PySem.W.kdl_meets_keys (mixKind X.prog X.w) d lo, ⟨vs, dd⟩, ?_⟩)
    refine PySem.Calls.spliced_nil ?_
    refine PySem.W.kdl_call (PySem.W.kdl_keys (knd := mixKind X.prog X.w) (kvs := vs) (ep := ep) (d := d)) (I1.ok.hd hc) ⟨⟨_, Heap.get?_push_size _ rfl, rfl, rfl⟩, hat.push _⟩ (by rw [← rel.length]; exact z) fun h' tk acc c' hk hD hacc => ?_
    have hv : Vals (vs.map fun p => kV p.1) acc.toList := keys_at (by rw [Array.length_toList]; exact hacc.1) fun j v e => hacc.2 j v (by rw [← Array.getElem?_toList]; exact e)
    refine ⟨.ref _, upd H1 _ (.lst (kvs.map fun kv => kV kv.1)), I2.laid (t' := tk) hk (Nat.le_refl _)
      (show ObjOk X.prog X.w _ _ _ (.lst (kvs.map fun kv => kV kv.1)) from ⟨by rw [List.length_map]; exact z, acc.toList, c', by rw [ek]; exact hv, by rw [Array.toArray_toList]; exact hD⟩), rfl, q _ (I2.hok.fresh (Nat.le_refl _))⟩
  · obtain ⟨z, hs, ks, pr, o, es, ep, ho', hx, hdt, he, hn⟩ := (show ObjOk X.prog X.w H1 s1.heap d (.dT kvs) from hd.ok I1.hok)
    obtain ⟨t1, t2, _⟩ := isD_at I1 (.inr ⟨kvs, hd⟩)
    have l1 : es.size = ks.length := size_of_entries he
    have l2 : kvs.length = ks.length := Paired.length pr
    refine ⟨t1, t2, ?_⟩
    show wpAny _ _ (callWith cpos (.builtin "dict.keys") [.ref d] [] []) _ X.xe s1
    refine method_meetsIn F.slot_dict_keys F.entry_dict_keys rfl (PySem.evalArgs_none ⟨rfl, t1, F.args_dict_keys_1 _, _, PySem.meets_dict_keys_raw d hs, ⟨⟨es, ep, ⟨o, ho', hx, hdt⟩⟩, ?_⟩⟩)
    refine PySem.Calls.spliced_nil ?_
    refine PySem.W.kdl_call (PySem.KdlSrc.rawKeys (d := d) (es := es) (ep := ep)) (I1.ok.hd hc) ⟨⟨_, Heap.get?_push_size _ rfl, rfl, rfl⟩, ⟨o, Heap.get?_push_of_some _ ho', hx, hdt⟩⟩ (by omega) fun h' tk acc' c' kp e it => ?_
    have ea : acc'.toList = ks.map fun x => Value.ref x.2.1 := by
      have hl : acc'.toList.length = ks.length := by rw [Array.length_toList, it.1]; exact l1
      apply List.ext_getElem?
      intro j
      rw [List.getElem?_map]
      cases hj : acc'.toList[j]? with
      | none =>
        have h1 := List.getElem?_eq_none_iff.mp hj
        rw [List.getElem?_eq_none (by omega)]
        all_goals rfl
      | some v =>
        obtain ⟨hi, hv⟩ := it.2 j v (by rw [← Array.getElem?_toList]; exact hj)
        have qe := entry_at he j
        rw [Array.getElem?_eq_getElem hi] at qe
        cases hb : ks[j]? with
        | none =>
          rw [hb] at qe
          exact nomatch (show some _ = none from qe)
        | some b =>
          rw [hb] at qe
          have e2 : es[j] = entryOfKey (tupleKind (mixKind X.prog X.w)) b := Option.some.inj qe
          rw [hv, e2]
          all_goals rfl
    have eb : acc'.toList = (ks.map fun x => x.2.1).map Value.ref := by rw [ea, List.map_map]; all_goals rfl
    have rv : Vals ((ks.map fun x => x.2.1).map V.ref) acc'.toList := by rw [eb]; exact vals_refs _
    have hz : ((ks.map fun x => x.2.1).map V.ref).length ≤ sizeLine := by rw [List.length_map, List.length_map]; omega
    refine ⟨.ref _, _, I2.laid (t' := tk) (o := .lst ((ks.map fun x => x.2.1).map V.ref)) kp (Nat.le_refl _) ?_, rfl, q _ _ (I2.hok.fresh (Nat.le_refl _)) (isKeys_of pr)⟩
    exact ⟨hz, acc'.toList, c', rv, by rw [Array.toArray_toList]; exact e⟩
end
section
variable {K : PySem.W.Frag} {mg : Str → Option Value} {hid : List Addr} {ρ : Rho} {H : Hp} {S : Store}
theorem keysK_rep {ks : List (Key × V)} {kvs : List (Key × D)} (h : RepKV K hid ρ H ks kvs) : RepL K hid ρ H (ks.map fun kv => kV kv.1) (kvs.map fun kv => kD kv.1) := by
  unfold RepKV at h
  induction h with
  | nil => exact .nil
  | cons q t ih => rename_i p q' _ _; obtain ⟨e, _⟩ := q; rw [List.map_cons, List.map_cons, e]; exact .cons (rep_kD _) ih
theorem keysT_rep (R : RelS K hid ρ H mg S) {ks : List (List Key × V)} {kvs : List (List Key × D)} (h : RepKV K hid ρ H ks kvs) : ∀ {bs : List Addr}, IsKeys H ks bs → RepL K hid ρ H (bs.map V.ref) (kvs.map fun kv => .tup (kv.1.map kD)) := by
  unfold RepKV at h
  induction h with
  | nil => intro bs hb; cases hb; exact .nil
  | cons q t ih =>
    intro bs hb
    obtain ⟨e, _⟩ := q
    cases hb with
    | cons hb ht =>
      rw [List.map_cons, List.map_cons, ← e]
      obtain ⟨f1, f2⟩ := R.tup_free hb
      exact .cons (.tup hb f1 f2 (repL_kD _)) (ih ht)
end
section
variable {X : Cx} {W : WX} {σ : L2.St} {H : Hp} {c a b : CE} {cs : CEs} {e ea eb ec eo ei ep ej : PySem.Expr} {p pos : Pos}
theorem s_keys {apos cpos : Pos} (hc : X.calm = true) (hg : Gl X "list") (hm : X.mg "list" = none) (ho : PE X eo (tE X W a)) (hb : isCall eo = false) (hl : (apos.endLine == cpos.line) = true) :
    PE X (.Call (.Name "list" p) [.Call (.Attribute eo "keys" apos) [] [] cpos] [] pos) (tL X W (.keys a)) := by
  refine PE.imp (pe_listKeys hc hg hm ho (base_no hb) hl) fun σ H Q h => ?_
  have h' : Go X W σ H (fun env S => (ev a env S).bind fun x S => (match x with
    | .ptr n => (match S[n]? with
      | some (.dK kvs) => .ok (kvs.map fun kv => kD kv.1) S
      | some (.dT kvs) => .ok (kvs.map fun kv => .tup (kv.1.map kD)) S
      | _ => .stuck)
    | _ => .stuck)) (fun hid ρ H' ds _ => ∀ xs p, RepL X.K hid ρ H' xs ds → H' p = none → Q (.ref p) (upd H' p (.lst xs))) := h
  refine h'.bind fun hid ρ1 H1 x S1 env r1 e1 p1 v rv => ?_
  split at p1
  · rename_i n
    split at p1
    · rename_i kvs q
      obtain ⟨ad, ha, _, ks, h1, h2⟩ := r1.at_ q (by simp)
      exact ⟨ad, rv.ptr_ref ha, .inl ⟨ks, .inl h1, fun p hp => p1.here r1 _ p (keysK_rep h2) hp⟩⟩
    · rename_i kvs q
      obtain ⟨ad, ha, _, ks, h1, h2⟩ := r1.at_ q (by simp)
      exact ⟨ad, rv.ptr_ref ha, .inr ⟨ks, .inl h1, fun p bs hp hb => p1.here r1 _ p (keysT_rep r1 h2 hb) hp⟩⟩
    · exact p1.elim
  · exact p1.elim
/-! ### sorted of a dict -/
theorem ints_repL {K : PySem.W.Frag} {hid : List Addr} {ρ : Rho} {H : Hp} : ∀ l : List Int, RepL K hid ρ H (l.map V.int) (l.map D.int)
  | [] => .nil
  | i :: l => .cons (.int i) (ints_repL l)
theorem s_srtd (hc : X.calm = true) (hg : Gl X "sorted") (hm : X.mg "sorted" = none) (ha : PE X eo (tE X W a)) (hs : isStar eo = false) :
    PE X (.Call (.Name "sorted" p) [eo] [] pos) (tL X W (.srtd a)) := by
  refine PE.imp (pe_callB (call_sortedDI hc) hg hm (by decide +kernel) (pa_cons ha pa_nil (star_cons hs [] X.env)) (by decide) (by decide) (star_cons hs [] X.env) (back_none pos (star_none X.env rfl))) fun σ H Q h => ?_
  have h' : Go X W σ H (fun env S => (ev a env S).bind fun x S => srtdM x S) (fun hid ρ H' ds _ => ∀ xs p, RepL X.K hid ρ H' xs ds → H' p = none → Q (.ref p) (upd H' p (.lst xs))) := h
  refine h'.bind fun hid ρ1 H1 x S1 env r1 e1 p1 v rv => ?_
  unfold srtdM at p1
  split at p1
  · rename_i n
    split at p1
    · rename_i kvs q
      split at p1
      · rename_i is hk
        split at p1
        · rename_i hl
          obtain ⟨ad, ha, _, ks, h1, h2⟩ := r1.at_ q (by simp)
          refine ⟨ad, ks, is, by rw [rv.ptr_ref ha], .inl h1, (repKV_keys h2).trans (intKeys_eq hk), hl, fun ys p pm ord hp => ?_⟩
          have e : ys = is.mergeSort fun a b => decide (a ≤ b) := by
            refine List.Perm.eq_of_pairwise (le := fun a b => a ≤ b) (fun a b _ _ h1 h2 => Int.le_antisymm h1 h2) ord ?_ (pm.trans (List.mergeSort_perm _ _).symm)
            have := List.pairwise_mergeSort (le := fun a b : Int => decide (a ≤ b)) (fun a b c h1 h2 => decide_eq_true (Int.le_trans (of_decide_eq_true h1) (of_decide_eq_true h2))) (fun a b => by
              rcases Int.le_total a b with h | h
              · rw [decide_eq_true h]; rfl
              · rw [decide_eq_true h, Bool.or_true]) is
            exact this.imp fun h => of_decide_eq_true h
          subst e
          exact p1.here r1 _ p (ints_repL _) hp
        · exact p1.elim
      · exact p1.elim
    · exact p1.elim
  · exact p1.elim
/-! ### sorted by a def's answers -/
theorem heap_off (h : Heap) (k : Addr) : ∃ G : Heap, (∀ b, b ≠ k → G.get? b = h.get? b) ∧ G.get? k = none := by
  obtain ⟨G, h1, h2⟩ := L2.restrict h fun b => decide (b ≠ k)
  exact ⟨G, fun b hb => h1 b (decide_eq_true hb), h2 k (by simp)⟩
/-- what a key's call hands back -/
def KQ (K : PySem.W.Frag) (mg : Str → Option Value) (hid : List Addr) (ρ : Rho) (H : Hp) (S : Store) (d : D) : V → Hp → Prop := fun v H' => ∃ ρ', Ext ρ H ρ' H' ∧ RelS K hid ρ' H' mg S ∧ Rep K hid ρ' H' v d
theorem key_call {pins : List (Addr × Obj)} {s : Shared} {H : Hp} {k : Nat} {f : Addr} {fd : FuncData} {ps : List Str} {g : Fn} {A : Around} {x : V} {u : Value} {d kd : D} {hid : List Addr} {ρ : Rho} {S S' : Store} (F : FnOk X.prog X.w X.K X.mg X.base (L2N.CX X.prog X.w) k f fd ps (spOf X.K X.mg g)) (hb : Binds X.K fd ps [])
    (hr : Room k A) (I : L2.Inv X pins σ H s) (e0 : Env0 X.prog X.w X.K X.mg X.base A X.stack s H) (R : RelS X.K hid ρ H X.mg S) (rx : Rep X.K hid ρ H x d) (ru : RelV x u) (e : g [d] S = .ok kd S') :
    wpAny (model X.prog X.w) A (call (.ref f) [u]) (EP X pins σ (KQ X.K X.mg hid ρ H S' kd)) (fun _ _ => False) s := by
  have sp : spOf X.K X.mg g [x] H (KQ X.K X.mg hid ρ H S' kd) (fun _ _ _ => False) := by
    refine ⟨hid, ρ, S, [d], R, .cons rx .nil, ?_⟩
    rw [e]
    exact fun ρ' H' e' r' v rv => ⟨ρ', e', r', rv⟩
  have hl : ([u] : List Value).length = ps.length := F.len _ _ _ _ sp
  have b := hb s [u] I.kIn (by rw [List.append_nil]; exact hl)
  rw [List.append_nil] at b
  refine wpAny_call (codeAny_mono (F.run A X.stack s H ⟨[u], []⟩ [u] [x] _ _ hr e0 b (.cons ru .nil) sp) fun r s' hq => ?_)
  cases r with
  | error e =>
    obtain ⟨_, _, _, _, _, _, _, _, _, _, _, _, z⟩ := hq
    exact z
  | ok fl =>
    cases fl with
    | ret u => exact I.after hq
    | next => exact False.elim hq
    | brk => exact False.elim hq
    | cont => exact False.elim hq
theorem each_py {K : PySem.W.Frag} {hid : List Addr} {ρ : Rho} {H : Hp} {R : Value → PyData → Prop} : ∀ {us : List Value} {ks : List D}, PySem.W.EachIs (fun u (d : D) => R u d.py) us ks → PySem.W.EachIs R us (ks.map D.py)
  | _, _, .nil => .nil
  | _, _, .cons h t => .cons h (each_py (K := K) (hid := hid) (ρ := ρ) (H := H) t)
theorem mapK_len {g : Fn} : ∀ {ds ks : List D} {S S' : Store}, mapK g ds S = some (ks, S') → ks.length = ds.length
  | [], _, _, _, h => by cases h; rfl
  | d :: ds, ks, S, S', h => by
    have h' : (match g [d] S with
      | .ok k S' => (match mapK g ds S' with | some (ks, S2) => some (k :: ks, S2) | none => none)
      | _ => none) = some (ks, S') := h
    split at h'
    · split at h'
      · rename_i q
        cases h'
        rw [List.length_cons, List.length_cons, mapK_len q]
      · cases h'
    · cases h'
theorem mapK_cons {g : Fn} {d : D} {ds ks : List D} {S S' : Store} (h : mapK g (d :: ds) S = some (ks, S')) : ∃ k ks' S1, g [d] S = .ok k S1 ∧ mapK g ds S1 = some (ks', S') ∧ ks = k :: ks' := by
  have h' : (match g [d] S with
      | .ok k S' => (match mapK g ds S' with | some (ks, S2) => some (k :: ks, S2) | none => none)
      | _ => none) = some (ks, S') := h
  split at h'
  · rename_i k S1 q1
    split at h'
    · rename_i ks' S2 q
      cases h'
      exact ⟨k, ks', S1, q1, q, rfl⟩
    · cases h'
  · cases h'
def rSortK (X : Cx) (g : Fn) (f : Addr) : List V → List V → Hp → VK → Prop := fun vs zs H Q => ∃ (a : Addr) (xs : List V) (ds : List D) (hid : List Addr) (ρ : Rho) (S S1 : Store) (ks : List D), vs = [V.ref a] ∧ zs = [V.ref f] ∧ SqL X.K H a xs ∧ RelS X.K hid ρ H X.mg S ∧ RepL X.K hid ρ H xs ds ∧ mapK g ds S = some (ks, S1) ∧
  fitL ks 50 = true ∧ alikeAllD ks = true ∧ sortableD ks = true ∧
  ∀ (ρ' : Rho) (H' : Hp) (zs : List V) (p : Addr), Ext ρ H ρ' H' → RelS X.K hid ρ' H' X.mg S1 → RepL X.K hid ρ' H' zs (((ks.zip ds).mergeSort fun a b => leD a.1 b.1).map (·.2)) → H' p = none → Q (.ref p) (upd H' p (.lst zs))
theorem upd_twice {H : Hp} {a : Addr} {o u : HO} : upd (upd H a o) a u = upd H a u := by
  funext c
  unfold upd
  by_cases h : c = a
  · rw [if_pos h, if_pos h]
  · rw [if_neg h, if_neg h, if_neg h]
theorem upd_without {H : Hp} {a : Addr} {u : HO} : upd (without H a) a u = upd H a u := by
  funext c
  unfold upd without
  by_cases h : c = a
  · rw [if_pos h, if_pos h]
  · rw [if_neg h, if_neg h, if_neg h]
theorem each_zip {R : Value → D → Prop} : ∀ {us : List Value} {ds ks : List D}, PySem.W.EachIs R us ds → ks.length = ds.length → PySem.W.EachIs (fun u (p : D × D) => R u p.2) us (ks.zip ds)
  | _, _, ks, .nil, h => by
    cases ks with
    | nil => exact .nil
    | cons _ _ => simp at h
  | _, _, ks, .cons r t, h => by
    cases ks with
    | nil => simp at h
    | cons k ks => exact .cons r (each_zip t (by simpa using h))
theorem each_snd {R : Value → D → Prop} : ∀ {us : List Value} {ps : List (D × D)}, PySem.W.EachIs (fun u (p : D × D) => R u p.2) us ps → PySem.W.EachIs R us (ps.map (·.2))
  | _, _, .nil => .nil
  | _, _, .cons r t => .cons r (each_snd t)
theorem ext_off {ρ ρ' : Rho} {H H' : Hp} {a : Addr} (h : H a = none) (x : Ext ρ H ρ' H') : Ext ρ H ρ' (without H' a) :=
  ⟨x.len, x.slot, fun b u h1 h2 => by
    obtain ⟨q1, q2⟩ := x.keep b u h1 h2
    exact ⟨by rw [without_ne (ne_of_none h1 h)]; exact q1, q2⟩, fun b q u h1 => by
    rw [without_ne (ne_of_none h1 h)]; exact x.frz b q u h1⟩
theorem cr_sortedKeyD {k : Nat} {f : Addr} {fd : FuncData} {ps : List Str} {g : Fn} (hu : X.A.units + 65 < cLine) (F : FnOk X.prog X.w X.K X.mg X.base (L2N.CX X.prog X.w) k f fd ps (spOf X.K X.mg g)) (hb : Binds X.K fd ps []) (hr : Room (k + 2) X.A) :
    CallRK X (.builtin "sorted") [Str.ofString "key"] (rSortK X g f) := by
  intro pins s σ H vs zs us ws Q I r rz h
  obtain ⟨a, xs, ds, hid, ρ, S, S1, ks, rfl, rfl, hs, R, rl, hm, hf, hal, hsb, q⟩ := h
  rw [Vals.ref1 r, Vals.ref1 rz]
  have hrr : Room k X.A.in1.in1 := Room.in1 (Room.in1 hr)
  obtain ⟨its, rv, hl, hz⟩ := I.list hs
  have lds : its.length = ds.length := by rw [← rv.length, rl.length]
  have hzl : its.length ≤ sizeLine := by rw [← rv.length]; exact hz
  have klen := mapK_len hm
  show wpAny _ _ (call (.builtin "sorted") [.ref a] [(Str.ofString "key", .ref f)]) _ _ s
  refine PySem.W.sorted_of_sort hl.isList hzl (PyProof.Rows.ksk_s1 _ _) (fun _ => PyProof.Rows.ksk_l1 _ _) fun E' => ?_
  rw [PyProof.Rows.ksk_t1]
  have oa := PySem.W.copyHeap_at s.heap its
  have old : ∀ b o, s.heap.get? b = some o → (PySem.W.copyHeap s.heap its).get? b = some o := fun b o z => PySem.W.copyHeap_old z
  generalize hcp : PySem.W.copyHeap s.heap its = hC at oa old ⊢
  have a0ge : s.heap.objs.size ≤ s.heap.objs.size + 1 := Nat.le_succ _
  have a0lt := Heap.lt_size oa
  have a0ne : ∀ b o, s.heap.get? b = some o → b ≠ s.heap.objs.size + 1 := fun b o z => Nat.ne_of_lt (Nat.lt_succ_of_lt (Heap.lt_size z))
  generalize ha0 : s.heap.objs.size + 1 = a0 at oa a0ge a0lt a0ne ⊢
  unfold ksk_tree
  refine wpAny_bind (listItems_at oa rfl ?_)
  refine wpAny_bind (listUpdate_at oa rfl ?_ (by rw [List.size_toArray]; exact hzl) (Nat.zero_le _))
  obtain ⟨n1, oa1⟩ : ∃ n1, (hC.update a0 (Obj.mapSeq fun _ => (#[] : Array Value))).get? a0 = some (seqObj "list" #[] n1) := ⟨_, get?_update_seq oa fun _ => #[]⟩
  refine wpAny_bind (seqEpoch_at oa1 rfl ?_)
  refine wpAny_bind (wpAny_newTuple ?_ (by show its.length ≤ _; exact hzl))
  refine wpAny_bind (wpAny_newList ?_ (Nat.zero_le _))
  refine wpAny_holding ?_
  generalize hht : (hC.update a0 (Obj.mapSeq fun _ => (#[] : Array Value))).push (seqObj "tuple" its.toArray 0) = hT
  have szT : hT.objs.size = hC.objs.size + 1 := by rw [← hht, size_push', Heap.size_update]
  have oaT : hT.get? a0 = some (seqObj "list" #[] n1) := by rw [← hht]; exact Heap.get?_push_of_some _ oa1
  have oaL : (hT.push (seqObj "list" #[] 0)).get? a0 = some (seqObj "list" #[] n1) := Heap.get?_push_of_some _ oaT
  have keep0 : ∀ b o, s.heap.get? b = some o → (hT.push (seqObj "list" #[] 0)).get? b = some o := fun b o z => by
    refine Heap.get?_push_of_some _ ?_
    rw [← hht]
    refine Heap.get?_push_of_some _ ?_
    rw [Heap.get?_update_ne _ _ _ _ (a0ne b o z)]
    exact old b o z
  have okS : (hT.push (seqObj "list" #[] 0)).get? hT.objs.size = some (seqObj "list" #[] 0) := Heap.get?_push_size _ rfl
  have klt : a0 < hT.objs.size := Nat.lt_of_lt_of_le a0lt (by rw [szT]; exact Nat.le_succ _)
  have kne : hT.objs.size ≠ a0 := Nat.ne_of_gt klt
  have kge : s.heap.objs.size ≤ hT.objs.size := Nat.le_trans a0ge (Nat.le_of_lt klt)
  clear klt
  show wpAny (model X.prog X.w) X.A.in1.in1 (ksk_rest a0 (.ref f) false its.toArray n1 (.ref hT.objs.size)) _ _ { s with heap := hT.push (seqObj "list" #[] 0) }
  generalize hkS : hT.objs.size = kS at okS kne kge ⊢
  generalize hhl : hT.push (seqObj "list" #[] 0) = hL at oaL keep0 okS ⊢
  -- the list that is sorted is locked
  have H0 : H a0 = none := I.hok.fresh a0ge
  have HK : H kS = none := I.hok.fresh kge
  have I1 : L2.Inv X pins σ (upd H a0 (.lst [])) { s with heap := hL } := I.laid (t' := s.toks) keep0 a0ge ⟨Nat.zero_le _, [], n1, .nil, oaL⟩
  have hn := I1.nofrz upd_same trivial
  obtain ⟨od, I2⟩ := I1.lock upd_same trivial
  rw [upd_twice] at I2
  have eod : od = seqObj "list" #[] n1 := by
    have z := (I2.hok a0 _ upd_same).1
    rw [show ({ s with heap := hL } : Shared).heap.get? a0 = some (seqObj "list" #[] n1) from oaL] at z
    exact (Option.some.inj z).symm
  obtain ⟨x0, R0⟩ := R.hide (o := .frz od (.lst [])) H0
  have fh : a0 ∉ hid := (R.fresh H0).2
  unfold ksk_rest
  refine wpAny_bind (wpAny_rule ?_)
  rw [← Array.forIn_toList]
  refine wpAny_bind (ksk_fold (fun i s' => ∃ (ρ' : Rho) (H' : Hp) (Sk : Store) (kV : List V) (kD : List D) (kA : Array Value) (n : Nat) (rest : List D), L2.Inv X pins σ H' s' ∧ Ext ρ (upd H a0 (.frz od (.lst []))) ρ' H' ∧ RelS X.K (a0 :: hid) ρ' H' X.mg Sk ∧ Vals kV kA.toList ∧ RepL X.K (a0 :: hid) ρ' H' kV kD ∧
    mapK g (ds.drop i) Sk = some (rest, S1) ∧ ks = kD ++ rest ∧ kD.length = i ∧ H' kS = none ∧ s'.heap.get? kS = some (seqObj "list" kA n)) its 0 { s with heap := hL }
    ⟨ρ, _, S, [], [], #[], 0, ks, I2, Ext.refl, R0, .nil, .nil, hm, rfl, rfl, by rw [upd_ne kne]; exact HK, okS⟩ ?step ?done)
  case step =>
    rintro j x s' hx ⟨ρ', H', Sk, kV, kD, kA, n, rest, I', x', R', rvk, rlk, hmk, eks, lk, nK, oK⟩
    rw [Nat.zero_add] at hmk lk ⊢
    obtain ⟨v, hv, rvx⟩ : ∃ v, xs[j]? = some v ∧ RelV v x := by
      have : ∀ {xs : List V} {its : List Value} {j : Nat}, Vals xs its → its[j]? = some x → ∃ v, xs[j]? = some v ∧ RelV v x := fun {xs its j} h => by
        induction h generalizing j with
        | nil => intro z; simp at z
        | cons r t ih =>
          intro z
          cases j with
          | zero => simp at z; exact ⟨_, rfl, z ▸ r⟩
          | succ j => simpa using ih (by simpa using z)
      exact this rv hx
    obtain ⟨d, hd, rd⟩ := rl.getV hv
    have hdrop : ds.drop j = d :: ds.drop (j + 1) := by
      obtain ⟨hlt, e⟩ := List.getElem?_eq_some_iff.mp hd
      rw [List.drop_eq_getElem_cons hlt, e]
    rw [hdrop] at hmk
    obtain ⟨kd, rest', S2, hg, hm2, erest⟩ := mapK_cons hmk
    have rd' : Rep X.K (a0 :: hid) ρ' H' v d := (Rep.conv (Cv.hide H0) d rd).mono (x0.trans x')
    have fp := I.fpOk kge nK
    have Ip := I'.pinned (fp := [kS]) (fun b hb => by rw [List.mem_singleton.mp hb]; exact ⟨nK, fp.2.1, fp.2.2.1, fp.2.2.2.1, fp.2.2.2.2.1, fp.2.2.2.2.2⟩) (fun b hb => by rw [List.mem_singleton.mp hb]; exact ⟨_, oK, fun v z => nomatch z⟩)
    refine wpAny_bind (wpAny_attempt (wpAny_mono (key_call F hb hrr Ip Ip.env0.in1.in1 R' rd' rvx hg) (fun u s2 hu2 => ?_) fun _ _ z => z.elim))
    obtain ⟨wv, H2, J, rw', ρ2, x2, R2, rk⟩ := hu2
    have pk := J.pin (kS, _) (List.mem_append_right _ (List.mem_append_right _ (mem_pinsAt (by simp) oK)))
    have oK2 : s2.heap.get? kS = some (seqObj "list" kA n) := pk.1
    have nK2 : H2 kS = none := pk.2.1
    have lkA : kA.size = j := by
      have h1 : kV.length = kA.size := rvk.length.trans (by simp)
      have h2 : kV.length = kD.length := rlk.length
      rw [← h1, h2]
      first | exact lk | omega
    have hjl : j < its.length := (List.getElem?_eq_some_iff.mp hx).1
    try dsimp only
    obtain ⟨n2, oK3⟩ : ∃ n2, (s2.heap.update kS (Obj.mapSeq (·.push u))).get? kS = some (seqObj "list" (kA.push u) n2) := ⟨_, get?_update_seq oK2 (·.push u)⟩
    have sb := Heap.SameBut.update s2.heap kS (Obj.mapSeq (·.push u))
    have fp2 := I.fpOk kge nK2
    refine wpAny_bind (listUpdate_at oK2 rfl ?_ (by omega) (by rw [Array.size_push]; omega))
    refine wpAny_pure ⟨rfl, ρ2, H2, S2, kV ++ [wv], kD ++ [kd], kA.push u, n2, rest', J.unpinned.turned (t' := s2.toks) (fun b o hb z => (sb.2 b hb).trans z) fp2.1 fp2.2.1 fp2.2.2.2.1 fp2.2.2.2.2.1 fp2.2.2.2.2.2, x'.trans x2, R2, ?_, (rlk.mono x2).append (.cons rk .nil), hm2, by rw [eks, erest, List.append_assoc]; rfl, by simp [lk], nK2, oK3⟩
    rw [Array.toList_push]
    exact rvk.append (.cons rw' .nil)
  case done =>
    rintro s' ⟨ρ', H', Sk, kV, kD, kA, n, rest, I', x', R', rvk, rlk, hmk, eks, lk, nK, oK⟩
    rw [Nat.zero_add] at hmk lk
    rw [List.drop_of_length_le (by omega)] at hmk
    cases hmk
    rw [List.append_nil] at eks
    subst eks
    have hA0 : H' a0 = some (.frz od (.lst [])) := x'.frz a0 od _ upd_same
    have oA : s'.heap.get? a0 = some (seqObj "list" #[] n1) := by rw [← eod]; exact (I'.hok a0 _ hA0).1
    have hsz : kA.size = its.length := by
      have h1 : kV.length = kA.size := rvk.length.trans (by simp)
      have h2 : kV.length = ks.length := rlk.length
      rw [← h1, h2]
      exact lk
    have rds : RepL X.K (a0 :: hid) ρ' H' xs ds := (RepL.conv (Cv.hide H0) ds rl).mono (x0.trans x')
    have hk : PySem.W.EachIs (fun v k => ∃ as, Reads s'.heap v k as) kA.toList (ks.map D.py) := each_py (K := X.K) (hid := hid) (ρ := ρ') (H := H') (each_reads I' rvk rlk hf)
    have al : PySem.W.AllAlike (ks.map D.py) := by
      intro x hx y hy
      obtain ⟨d, hd, rfl⟩ := List.mem_map.mp hx
      obtain ⟨e, he, rfl⟩ := List.mem_map.mp hy
      exact List.all_eq_true.mp (List.all_eq_true.mp hal d hd) e he
    have so : PySem.W.Sortable (ks.map D.py) := by
      rcases Bool.or_eq_true_iff.mp hsb with h | h
      · refine .inl fun x hx => ?_
        obtain ⟨d, hd, rfl⟩ := List.mem_map.mp hx
        have h1 := List.all_eq_true.mp h d hd
        cases d with
        | tup l => cases l with
          | nil => simp at h1
          | cons e l => exact ⟨_, _, rfl⟩
        | _ => simp at h1
      · refine .inr fun x hx => ?_
        obtain ⟨d, hd, rfl⟩ := List.mem_map.mp hx
        have h1 := List.all_eq_true.mp h d hd
        have h2 := fitL_mem hf hd
        cases d with
        | non => simp at h1
        | tup l => simp at h1
        | con l => simp [D.fit] at h2
        | ptr l => simp [D.fit] at h2
        | _ => exact ⟨by simp [D.py], fun xs => by simp [D.py]⟩
    have hd : ∀ d, d ∈ ks.map D.py → X.A.in1.in1.units + d.depth < cLine := fun x hx => by
      obtain ⟨d, hd, rfl⟩ := List.mem_map.mp hx
      have := (fit_shape d 50 (fitL_mem hf hd)).2
      show X.A.units + 1 + 1 + _ < _
      omega
    obtain ⟨G, g1, g2⟩ := heap_off s'.heap kS
    try dsimp only
    refine wpAny_bind (listItems_at oK rfl ?_)
    refine PySem.W.keyH_end (κ := PySem.W.dataKind s'.heap (ks.map D.py)) (h₁ := G) (vs := its) (fun b o _ z => ?_) g2 oK oA kne (PySem.W.SortsAt.data (s := s') hk al so hd) hsz hzl fun h3 tk3 c3 kp3 oA3 => ⟨rfl, ?_⟩
    · by_cases hb : b = kS
      · rw [hb, g2] at z; cases z
      · rw [← g1 b hb]; exact z
    · have ko : PySem.W.KeyedOut false ((ks.zip ds).map fun p => p.1.py) its (PySem.W.sortVals (PySem.W.dataKind s'.heap (ks.map D.py)) false kA.toList its) := by
        have e : (ks.zip ds).map (fun p => p.1.py) = ks.map D.py := by
          rw [show (fun p : D × D => p.1.py) = D.py ∘ Prod.fst from rfl, ← List.map_map, List.map_fst_zip (by omega)]
        rw [e]
        exact ⟨s'.heap, kA.toList, al, rfl, hk⟩
      generalize PySem.W.sortVals (PySem.W.dataKind s'.heap (ks.map D.py)) false kA.toList its = out at ko oA3
      have eo := PySem.W.keyedOut_each (R := fun (u : Value) (p : D × D) => ∃ x, RelV x u ∧ Rep X.K (a0 :: hid) ρ' H' x p.2) (fun p : D × D => p.1.py) ko (each_zip (each_of rv rds) (by omega))
      have olen : out.length = its.length := by
        have h1 := eo.length
        rw [List.length_mergeSort, List.length_zip] at h1
        omega
      obtain ⟨zs, rz2, lz⟩ := of_each (each_snd eo)
      have lz' : RepL X.K (a0 :: hid) ρ' H' zs (((ks.zip ds).mergeSort fun a b => leD a.1 b.1).map (·.2)) := lz
      -- the object that was locked gets them
      have fp3 := I.fpOk kge nK
      have keep3 : ∀ b o, b ≠ kS → b ≠ a0 → s'.heap.get? b = some o → h3.get? b = some o := fun b o hb hb2 z => kp3 b o hb2 (by rw [g1 b hb]; exact z)
      have om : (h3.update a0 fun _ => od).get? a0 = some od := Heap.get?_update_self (fun _ => od) oA3 (by rw [eod]; rfl)
      have ne3 : ∀ b, b ≠ a0 → (h3.update a0 fun _ => od).get? b = h3.get? b := fun b hb => Heap.get?_update_ne _ _ _ _ hb
      have J1 := I'.turned (t' := tk3) (h' := h3.update a0 fun _ => od) (fun b o hb z => by
        by_cases hba : b = a0
        · subst hba
          rw [oA] at z
          cases z
          rw [om, eod]
        · rw [ne3 b hba]; exact keep3 b o hb hba z) fp3.1 fp3.2.1 fp3.2.2.2.1 fp3.2.2.2.2.1 fp3.2.2.2.2.2
      have J2 := J1.unlock hA0 hn
      have J3 := J2.write (x := a0) (e := a0) (o := .lst zs) (h' := h3) (t' := tk3) (by rw [upd_same]; trivial) (.inl rfl) (fun b u hb z => by rw [← ne3 b hb]; exact z) ⟨_, oA3⟩ ⟨by rw [rz2.length, olen]; exact hzl, out, c3, rz2, oA3⟩
      rw [upd_twice] at J3
      obtain ⟨d1, d2⟩ := R'.drop fh
      have fin := q ρ' (without H' a0) zs a0 (ext_off H0 (x0.trans x')) d1 (RepL.conv d2 _ lz') (if_pos rfl)
      rw [upd_without] at fin
      exact ⟨.ref a0, _, J3, rfl, fin⟩
theorem s_sortk {a : CE} {ea : PySem.Expr} {p pos np kpos : Pos} {lv : Nat} {x : Str} {g : Fn} (hc : X.calm = true) (hu : X.A.units + 65 < cLine) (hg : Gl X "sorted") (hm : X.mg "sorted" = none) (C : CalOk X.prog X.w X.K X.mg X.base lv x g) (hr : Room (lv + 2) X.A) (gx : Gl X x) (hd : (x == ("__debug__" : Str)) = false)
    (ha : PE X ea (tE X W a)) (hs : isStar ea = false) : PE X (.Call (.Name "sorted" p) [ea] [⟨some "key", .Name x np, kpos⟩] pos) (tL X W (.sortk a x g)) := by
  obtain ⟨k, f, fd, ps, F, hmf, hk, hb, hkl⟩ := C.ex
  have pk : PK X [⟨some "key", .Name x np, kpos⟩] (tCons (tC (.ref f)) tNil) := pk_cons (pe_glob gx hmf rfl hd) pk_nil
  refine PE.imp (pe_callBK (ks := ["key"]) (cr_sortedKeyD hu F hb (hr.mono (by omega))) hg hm (by decide +kernel) (pa_cons ha pa_nil (star_cons hs [] X.env)) pk (by decide) (by decide) (by rw [star_cons hs [] X.env]; rfl) (by rw [star_cons hs [] X.env]; rfl) rfl rfl rfl) fun σ H Q h => ?_
  have h' : Go X W σ H (fun env S => (ev a env S).bind fun x S => (match x with
    | .tup _ => .stuck
    | .con _ => .stuck
    | x => (match seqOf x S with
      | some ds => (match mapK g ds S with
        | some (ks, S2) => if fitL ks 50 && alikeAllD ks && sortableD ks then .ok (((ks.zip ds).mergeSort fun a b => leD a.1 b.1).map (·.2)) S2 else .stuck
        | none => .stuck)
      | none => .stuck))) (fun hid ρ H' ds _ => ∀ xs p, RepL X.K hid ρ H' xs ds → H' p = none → Q (.ref p) (upd H' p (.lst xs))) := h
  refine h'.bind fun hid ρ1 H1 x S1 env r1 e1 p1 v rv => ?_
  have key : (∀ es, x ≠ .tup es) ∧ (∀ es, x ≠ .con es) ∧ Post X.K X.mg hid ρ1 H1 (match seqOf x S1 with
      | some ds => (match mapK g ds S1 with
        | some (ks, S2) => if fitL ks 50 && alikeAllD ks && sortableD ks then .ok (((ks.zip ds).mergeSort fun a b => leD a.1 b.1).map (·.2)) S2 else .stuck
        | none => .stuck)
      | none => .stuck) (fun ρ H' ds _ => ∀ xs p, RepL X.K hid ρ H' xs ds → H' p = none → Q (.ref p) (upd H' p (.lst xs))) (fun cls d H' => W cls d σ H') := by
    cases x with
    | tup es => exact p1.elim
    | con es => exact p1.elim
    | _ => exact ⟨(fun es z => by cases z), (fun es z => by cases z), p1⟩
  obtain ⟨nt, nc, p2⟩ := key
  split at p2
  · rename_i ds q
    split at p2
    · rename_i ks S2 hm2
      split at p2
      · rename_i hcc
        obtain ⟨ad, xs, rfl, hs, rl⟩ := lst_rep r1 rv q nt nc
        obtain ⟨hc1, hc3⟩ := and2 hcc
        obtain ⟨hc1, hc2⟩ := and2 hc1
        exact ⟨ad, xs, ds, hid, ρ1, S1, S2, ks, rfl, rfl, hs, r1, rl, hm2, hc1, hc2, hc3, fun ρ' H' zs p x' r' lz hp => p2 ρ' H' x' r' zs p lz hp⟩
      · exact p2.elim
    · exact p2.elim
  · exact p2.elim
end
section
variable {X : Cx} {W : WX} {σ : L2.St} {H : Hp} {c a b : CE} {cs : CEs} {e ea eb ec eo ei ep ej : PySem.Expr} {p pos : Pos}
/-! ### d.get(k, x) -/
theorem isDict_rep {hid : List Addr} {ρ : Rho} {S : Store} {v : V} {d : D} (r : RelS X.K hid ρ H X.mg S) (rv : Rep X.K hid ρ H v d) (h : isDict d S = true) : ∃ a, v = .ref a ∧ IsD H a := by
  unfold isDict at h
  split at h
  · split at h
    · rename_i kvs q
      obtain ⟨ad, ha, _, ks, h1, h2⟩ := r.at_ q (by simp)
      exact ⟨ad, rv.ptr_ref ha, .inl ⟨ks, .inl h1⟩⟩
    · rename_i kvs q
      obtain ⟨ad, ha, _, ks, o, h1, h2⟩ := r.at_ q (by simp)
      exact ⟨ad, rv.ptr_ref ha, .inl ⟨ks, .inr ⟨o, h1⟩⟩⟩
    · rename_i kvs q
      obtain ⟨ad, ha, _, ks, h1, h2⟩ := r.at_ q (by simp)
      exact ⟨ad, rv.ptr_ref ha, .inr ⟨ks, .inl h1⟩⟩
    · rename_i kvs q
      obtain ⟨ad, ha, _, ks, o, h1, h2⟩ := r.at_ q (by simp)
      exact ⟨ad, rv.ptr_ref ha, .inr ⟨ks, .inr ⟨o, h1⟩⟩⟩
    · cases h
  · cases h
theorem s_dgetd {apos cpos : Pos} (hu : X.A.units + 65 < cLine) (ha : PE X eo (tE X W a)) (hb : PE X eb (tE X W b)) (hc : PE X ec (tE X W c)) (h1 : isCall eo = false) (h2 : isStar eb = false) (h3 : isStar ec = false) (hl : (apos.endLine == cpos.line) = true) :
    PE X (.Call (.Attribute eo "get" apos) [eb, ec] [] cpos) (tE X W (.dgetd a b c)) := by
  have st : starEach [eb, ec] X.env = (false, eval eb X.env) :: (false, eval ec X.env) :: starEach [] X.env := by rw [star_cons h2 [ec] X.env, star_cons h3 [] X.env]
  have m : M2 X eo "get" apos eb ec cpos := ⟨base_no h1, by rw [st]; rfl, hl, by rw [st]; rfl⟩
  refine PE.imp (pe_dget2 (by omega) ha hb hc m) fun σ H Q h => ?_
  have h' : Go X W σ H (fun env S => (ev a env S).bind fun x S => if isDict x S then (ev b env S).bind fun y S => (ev c env S).bind fun z S => (match dGet x y S with | some o => .ok (o.getD z) S | none => .stuck) else .stuck) (fun hid ρ H' d _ => ∀ v, Rep X.K hid ρ H' v d → Q v H') := h
  refine h'.bind fun hid ρ1 H1 x S1 env r1 e1 p1 v rv => ?_
  split at p1
  · rename_i hd
    obtain ⟨ad, ea, isd⟩ := isDict_rep r1 rv hd
    refine ⟨ad, ea, isd, hid, ρ1, env, S1, r1, e1, p1.bind fun ρ2 H2 y S2 x2 r2 p2 w rw' => ?_⟩
    refine ⟨hid, ρ2, env, S2, r2, e1.mono x2, p2.bind fun ρ3 H3 z S3 x3 r3 p3 u ru => ?_⟩
    split at p3
    · rename_i o hg
      obtain ⟨ad', ov, ea', g, q⟩ := dget_rep r3 ((rv.mono x2).mono x3) (rw'.mono x3) hg
      have : ad' = ad := by rw [ea] at ea'; cases ea'; rfl
      subst this
      refine ⟨ov, g, ?_⟩
      rcases q with ⟨rfl, rfl⟩ | ⟨w', d, rfl, rfl, q3⟩
      · exact p3.here r3 _ ru
      · exact p3.here r3 _ q3
    · exact p3.elim
  · exact p1.elim
/-! ### join -/
theorem strs_rep {K : PySem.W.Frag} {hid : List Addr} {ρ : Rho} : ∀ {vs : List V} {ds : List D} {ys : List Str}, RepL K hid ρ H vs ds → asStrs ds = some ys → vs = ys.map V.str
  | _, _, _, .nil, h => by cases h; rfl
  | _, _, _, .cons (d := d) (ds := ds) r rs, h => by
    have h' : (match d with | .str i => (asStrs ds).map (i :: ·) | _ => none) = some _ := h
    split at h'
    · obtain ⟨zs, h1, rfl⟩ := Option.map_eq_some_iff.mp h'
      cases r
      rw [strs_rep rs h1]
      rfl
    · cases h'
theorem s_join {apos cpos : Pos} (ha : PE X eo (tE X W a)) (hb : PE X eb (tE X W b)) (h1 : isCall eo = false) (h2 : isStar eb = false) (hl : (apos.endLine == cpos.line) = true) :
    PE X (.Call (.Attribute eo "join" apos) [eb] [] cpos) (tE X W (.join a b)) := by
  have st : starEach [eb] X.env = [(false, eval eb X.env)] := star_cons h2 [] X.env
  refine PE.imp (pe_join ha hb st (base_no h1) hl) fun σ H Q h => ?_
  have h' : Go X W σ H (fun env S => (ev a env S).bind fun x S => (match x with | .str s => (ev b env S).bind fun y S => Rs.of (joinD s (seqOf y S)) S | _ => .stuck)) (fun hid ρ H' d _ => ∀ v, Rep X.K hid ρ H' v d → Q v H') := h
  refine h'.bind fun hid ρ1 H1 x S1 env r1 e1 p1 v rv => ?_
  split at p1
  · rename_i s
    cases rv
    refine ⟨⟨s, rfl⟩, hid, ρ1, env, S1, r1, e1, p1.bind fun ρ2 H2 y S2 x2 r2 p2 w rw' => ?_⟩
    obtain ⟨d, hd, k⟩ := p2.of
    unfold joinD at hd
    split at hd
    · cases hd
    · rename_i ds q
      split at hd
      · cases hd
      · rename_i ys hy
        split at hd
        · rename_i hz
          cases hd
          obtain ⟨ad, xs, rfl, hs, rl⟩ := seq_rep r2 rw' q
          have ex := strs_rep rl hy
          subst ex
          exact ⟨s, ad, ys, rfl, rfl, hs, by omega, k ρ2 H2 Ext.refl r2 _ (.str _)⟩
        · cases hd
  · exact p1.elim
/-! ### o[i], p[j] = a, b -/
theorem pair_sub {o1 i1 o2 i2 : PySem.Expr} {p1 p2 tp p3 : Pos} {k k2 : Nat} {env : Env} (sa : isStar ea = false) (sb : isStar eb = false) :
    swappedStores [.Tuple [.Subscript o1 i1 p1, .Subscript o2 i2 p2] k tp] (.Tuple [ea, eb] k2 p3) env = pure none := by
  unfold swappedStores
  have st : ([ea, eb].any fun | .Starred .. => true | _ => false) = false := by
    cases ea <;> first | (cases sa; done) | (cases eb <;> first | (cases sb; done) | rfl)
  simp only [List.length_cons, List.length_nil]
  cases hb : (env.blockKind != .function)
  · simp [hb, st]
  · simp [hb]
theorem putp_eq {a b : CE} {env : MEnv} {S : Store} {R : MI.D → MI.D → Store → Fl} : ((ev a env S).fl env fun d S => (ev b env S).fl env fun d2 S => R d d2 S) =
    (ev (.tup (.cons a (.cons b .nil))) env S).fl env fun t S => (match t with | .tup [d, d2] => R d d2 S | _ => Fl.stuck) := by
  show _ = (((ev a env S).bind fun x S => (((ev b env S).bind fun y S => (Rs.ok [] S).bind fun zs S => Rs.ok (y :: zs) S)).bind fun xs S => Rs.ok (x :: xs) S).bind fun ds S => Rs.ok (MI.D.tup ds) S).fl env _
  cases ev a env S with
  | ok x S1 =>
    show ((ev b env S1).fl env fun d2 S => R x d2 S) = ((((ev b env S1).bind _).bind _).bind _).fl env _
    cases ev b env S1 <;> rfl
  | ex c fs S1 => rfl
  | stuck => rfl
theorem s_putp {o i q j a b : CE} {p1 p2 tp p3 : Pos} {k k2 : Nat} (hc : X.calm = true) (hu : X.A.units + 65 < cLine) (ho : PE X eo (tE X W o)) (hi : PE X ei (tE X W i)) (hp : PE X ep (tE X W q)) (hj : PE X ej (tE X W j)) (ha : PE X ea (tE X W a)) (hb : PE X eb (tE X W b))
    (sa : isStar ea = false) (sb : isStar eb = false) (s1 : isSlice ei = false) (s2 : isSlice ej = false) :
    PS X (.Assign [.Tuple [.Subscript eo ei p1, .Subscript ep ej p2] k tp] (.Tuple [ea, eb] k2 p3) pos) (tS X W (ex (.putp o i q j a b))) := by
  have g1 : PG X (.Subscript eo ei p1) (gSub (tE X W o) (tE X W i) (rPut X)) := pg_sub ho hi (put_ok hu) (by intro v; cases ei <;> first | rfl | cases s1)
  have g2 : PG X (.Subscript ep ej p2) (gSub (tE X W q) (tE X W j) (rPut X)) := pg_sub hp hj (put_ok hu) (by intro v; cases ej <;> first | rfl | cases s2)
  have hg : PG X (.Tuple [.Subscript eo ei p1, .Subscript ep ej p2] k tp) (gTup X.K 2 (gCons _ (gCons _ gNil))) := pg_tup hc (pgs_cons g1 (pgs_cons g2 pgs_nil rfl) rfl) rfl rfl
  have he : PE X (.Tuple [ea, eb] k2 p3) (tE X W (.tup (.cons a (.cons b .nil)))) := s_tup (show 2 ≤ 1000000 by decide) (s_acons ha (s_acons hb s_anil sb) sa)
  refine PS.imp (ps_asg he hg rfl (pair_sub sa sb)) fun D σ H h => ?_
  have h' : tS X W (fun env S => (ev a env S).fl env fun d S => (ev b env S).fl env fun d2 S => (ev o env S).fl env fun x S => (ev i env S).fl env fun k S => (match (if isDict x S then dPut x k d S else putL x k d S) with
    | some S => (ev q env S).fl env fun x S => (ev j env S).fl env fun k S => (match (if isDict x S then dPut x k d2 S else putL x k d2 S) with | some S' => .nx env S' | none => .stuck)
    | none => .stuck)) D σ H := h
  have e0 : (fun env S => (ev a env S).fl env fun d S => (ev b env S).fl env fun d2 S => (ev o env S).fl env fun x S => (ev i env S).fl env fun k S => (match (if isDict x S then dPut x k d S else putL x k d S) with
    | some S => (ev q env S).fl env fun x S => (ev j env S).fl env fun k S => (match (if isDict x S then dPut x k d2 S else putL x k d2 S) with | some S' => .nx env S' | none => .stuck)
    | none => .stuck)) = fun env S => (ev (.tup (.cons a (.cons b .nil))) env S).fl env fun t S => (match t with
    | .tup [d, d2] => ((ev o env S).fl env fun x S => (ev i env S).fl env fun k S => (match (if isDict x S then dPut x k d S else putL x k d S) with
      | some S => (ev q env S).fl env fun x S => (ev j env S).fl env fun k S => (match (if isDict x S then dPut x k d2 S else putL x k d2 S) with | some S' => .nx env S' | none => .stuck)
      | none => .stuck))
    | _ => Fl.stuck) := by
    funext env S
    exact putp_eq
  rw [e0] at h'
  refine h'.fl fun hid ρ1 H1 t S1 env r1 e1 p1 v rv => ?_
  split at p1
  · rename_i d d2
    cases rv with
    | tup t1 t2 t3 t4 =>
      cases t4 with
      | cons rd t5 => cases t5 with
        | cons rd2 t6 => cases t6 with
          | nil =>
            refine ⟨_, _, rfl, SqT.of t1, rfl, _, _, rfl, ?_⟩
            refine ⟨hid, ρ1, env, S1, r1, e1, p1.fl e1 fun ρ2 H2 x S2 x2 r2 p2 w rw' => ?_⟩
            refine ⟨hid, ρ2, env, S2, r2, e1.mono x2, p2.fl (e1.mono x2) fun ρ3 H3 kk S3 x3 r3 p3 u ru => ?_⟩
            split at p3
            · rename_i S4 hs4
              refine ⟨hid, ρ3, S3, x, kk, d, S4, r3, rw'.mono x3, ru, rd.mono (x2.trans x3), hs4, fun ρ4 H4 x4 r4 => ?_⟩
              have e4 := ((e1.mono x2).mono x3).mono x4
              refine ⟨_, _, rfl, ?_⟩
              refine ⟨hid, ρ4, env, S4, r4, e4, (PostF.ext x4 p3).fl e4 fun ρ5 H5 y S5 x5 r5 p5 w2 rw2 => ?_⟩
              refine ⟨hid, ρ5, env, S5, r5, e4.mono x5, p5.fl (e4.mono x5) fun ρ6 H6 k6 S6 x6 r6 p6 u6 ru6 => ?_⟩
              split at p6
              · rename_i S7 hs7
                exact ⟨hid, ρ6, S6, y, k6, d2, S7, r6, rw2.mono x6, ru6, rd2.mono ((((x2.trans x3).trans x4).trans x5).trans x6), hs7, fun ρ' H' x7 r7 => ⟨rfl, (PostF.ext x7 p6).next r7 (((e4.mono x5).mono x6).mono x7)⟩⟩
              · exact p6.elim
            · exact p3.elim
  · exact p1.elim
end
end MI
namespace MI
open PySem PySem.Spec L2
/-! ### the check: this text is read so -/
def nmOk (x : Str) : Bool := !(x == ("__debug__" : Str)) && !(x == ("__classdict__" : Str))
def visB (sc : Scope) (x : Str) : Bool := match sc.names.lookup x with | some .local => true | some .cell => true | some .free => true | _ => false
def locB (sc : Scope) (fnB : Str → Bool) (x : Str) : Bool := match sc.names.lookup x with | some .local => true | some .cell => fnB x | _ => false
def glB (sc : Scope) (x : Str) : Bool := match sc.names.lookup x with | some .globalImplicit => true | _ => false
def varB (N : List Str) (sc : Scope) (i : Nat) (e : PySem.Expr) : Bool := match e with | .Name x _ => decide (N[i]? = some x) && (visB sc x && nmOk x) | _ => false
def biNames : List Str := ["abs", "max", "min", "int", "len", "tuple", "sum", "any", "all", "ord", "str", "isinstance", "list", "bool", "range", "enumerate", "sorted", "super"]
def nameAt (N : List Str) (sc : Scope) (fnB : Str → Bool) (i : Nat) (e : PySem.Expr) : Bool := match e with | .Name x _ => decide (N[i]? = some x) && locB sc fnB x | _ => false
def namesAt (N : List Str) (sc : Scope) (fnB : Str → Bool) : List Nat → List PySem.Expr → Bool
  | [], [] => true
  | i :: is, e :: es => nameAt N sc fnB i e && namesAt N sc fnB is es
  | _, _ => false
def tgB (N : List Str) (sc : Scope) (fnB : Str → Bool) : Tg → PySem.Expr → Bool
  | .name i, e => nameAt N sc fnB i e
  | .tup is, e => (match e with | .Tuple es _ _ => namesAt N sc fnB is es | _ => false)
def notSet (e : PySem.Expr) : Bool := match e with | .Set _ _ _ => false | _ => true
def blkFn (scope : Scope) : Str → Bool := fun x => scope.names.lookup x == some .cell
def isIf : CE → Bool
  | .ite _ _ _ => true
  | _ => false
mutual
def CE.tst : CE → Bool
  | .ite _ _ _ => false
  | .not a => a.tst
  | .band es => es.tst
  | .bor es => es.tst
  | _ => true
def CEs.tst : CEs → Bool
  | .nil => true
  | .cons e es => e.tst && es.tst
end
/-- isinstance(x, (list, tuple)) is told apart -/
def isInstOf (f : BFn) : Bool := isiOk f
mutual
def chkE (N : List Str) (sc : Scope) : CE → PySem.Expr → Bool
  | .var i, e => varB N sc i e
  | .frz i, e => varB N sc i e
  | .non, e => (match e with | .Constant .none _ _ => true | _ => false)
  | .bl b, e => (match e with | .Constant (.bool c) _ _ => b == c | _ => false)
  | .int i, e => (match e with | .Constant (.int j) _ _ => i == j | _ => false)
  | .str s, e => (match e with | .Constant (.str t) _ _ => s == t | _ => false)
  | .glob x _, e => (match e with | .Name y _ => decide (x = y) && (glB sc x && nmOk x) | _ => false)
  | .bin op a b, e => (match e with | .BinOp l o r _ => decide (o = opOf op) && (chkE N sc a l && chkE N sc b r) | _ => false)
  | .neg a, e => (match e with | .UnaryOp .USub l _ => chkE N sc a l | _ => false)
  | .not a, e => (match e with | .UnaryOp .Not l _ => chkE N sc a l | _ => false)
  | .band es, e => (match e with | .BoolOp .And ls _ => chkEs N sc es ls && (match ls with | [] => false | _ :: _ => true) | _ => false)
  | .bor es, e => (match e with | .BoolOp .Or ls _ => chkEs N sc es ls && (match ls with | [] => false | _ :: _ => true) | _ => false)
  | .cmp op a b, e => (match e with | .Compare l [o] [r] _ => decide (o = cmpOf op) && ((chkE N sc a l && chkE N sc b r) && notSet r) | _ => false)
  | .chain op op' a b c, e => (match e with | .Compare l [o, o'] [r, s] _ => (decide (o = cmpOf op) && decide (o' = cmpOf op')) && (((chkE N sc a l && chkE N sc b r) && chkE N sc c s) && notSet s) | _ => false)
  | .isN a, e => (match e with | .Compare l [.Is] [.Constant .none _ _] _ => chkE N sc a l | _ => false)
  | .notN a, e => (match e with | .Compare l [.IsNot] [.Constant .none _ _] _ => chkE N sc a l | _ => false)
  | .ite c a b, e => (match e with | .IfExp t l r _ => (c.tst && chkE N sc c t) && (chkE N sc a l && chkE N sc b r) | _ => false)
  | .call x _ es, e => (match e with | .Call (.Name y _) (l :: ls) [] _ => (decide (x = y) && (glB sc x && nmOk x)) && (chkEs N sc es (l :: ls) && ((l :: ls).all fun e => !isStar e)) | _ => false)
  | .bi f es, e => (match e with
    | .Call (.Name y _) (l :: ls) [] _ => if biCall f then (decide (y = biName f) && glB sc (biName f)) && (chkEs N sc es (l :: ls) && ((l :: ls).all fun e => !isStar e))
      else (match ls with
        | [.Name T _] => (isiOk f && ((T == Str.ofString (isiTy f)) && biNames.contains T)) && ((decide (y = ("isinstance" : Str)) && glB sc ("isinstance" : Str)) && (glB sc T && (!isStar l && (match es with | .cons c .nil => chkE N sc c l | _ => false))))
        | _ => false)
    | _ => false)
  | .tup es, e => (match e with | .Tuple ls _ _ => decide (es.len ≤ 1000000) && (chkEs N sc es ls && (ls.all fun e => !isStar e)) | _ => false)
  | .new _ l, e => chkL N sc l e
  | .dnew _, e => (match e with | .Dict [] [] _ => true | _ => false)
  | .dcomp own t it c k v, e => (match e with
    | .DictComp kx vx [⟨tg, iter, ifs, 0⟩] scope _ => ((blkC N sc scope own && (t.slots.all fun i => decide (i ∈ own.map (·.2)))) && (chkI N sc it tg iter && tgB N (relS scope sc) (blkFn scope) t tg)) &&
      (((chkC N (relS scope sc) c ifs && chkE N (relS scope sc) k kx) && chkE N (relS scope sc) v vx) && notSet iter)
    | _ => false)
  | .cnt a b, e => (match e with | .Call (.Attribute eo at_ apos) [eb] [] cpos => (decide (at_ = ("count" : Str)) && (chkE N sc a eo && chkE N sc b eb)) && ((!isCall eo && !isStar eb) && (apos.endLine == cpos.line)) | _ => false)
  | .dgetd a b c, e => (match e with | .Call (.Attribute eo at_ apos) [eb, ec] [] cpos => (decide (at_ = ("get" : Str)) && (chkE N sc a eo && (chkE N sc b eb && chkE N sc c ec))) && ((!isCall eo && (!isStar eb && !isStar ec)) && (apos.endLine == cpos.line)) | _ => false)
  | .join a b, e => (match e with | .Call (.Attribute eo at_ apos) [eb] [] cpos => (decide (at_ = ("join" : Str)) && (chkE N sc a eo && chkE N sc b eb)) && ((!isCall eo && !isStar eb) && (apos.endLine == cpos.line)) | _ => false)
  | .ix a b, e => (match e with | .Subscript l r _ => (chkE N sc a l && chkE N sc b r) && !isSlice r | _ => false)
  | .sl a lo hi, e => (match e with | .Subscript l (.Slice p q none _) _ => chkE N sc a l && (chkN N sc lo p && chkN N sc hi q) | _ => false)
def chkEs (N : List Str) (sc : Scope) : CEs → List PySem.Expr → Bool
  | .nil, ls => (match ls with | [] => true | _ => false)
  | .cons e es, ls => (match ls with | l :: ls => chkE N sc e l && chkEs N sc es ls | _ => false)
def chkN (N : List Str) (sc : Scope) : CO → Option PySem.Expr → Bool
  | .none, o => (match o with | none => true | _ => false)
  | .some e, o => (match o with | some l => chkE N sc e l | _ => false)
def chkC (N : List Str) (sc : Scope) : CO → List PySem.Expr → Bool
  | .none, o => (match o with | [] => true | _ => false)
  | .some e, o => (match o with | [l] => e.tst && chkE N sc e l | _ => false)
def chkL (N : List Str) (sc : Scope) : CL → PySem.Expr → Bool
  | .disp es, e => (match e with | .List ls _ => decide (es.len ≤ 1000000) && (chkEs N sc es ls && (ls.all fun e => !isStar e)) | _ => false)
  | .comp own t it c elt, e => (match e with
    | .ListComp el [⟨tg, iter, ifs, 0⟩] scope _ => ((blkC N sc scope own && (t.slots.all fun i => decide (i ∈ own.map (·.2)))) && (chkI N sc it tg iter && tgB N (relS scope sc) (blkFn scope) t tg)) &&
      ((chkC N (relS scope sc) c ifs && chkE N (relS scope sc) elt el) && notSet iter)
    | _ => false)
  | .sorted a, e => (match e with | .Call (.Name y _) [l] [] _ => (decide (y = ("sorted" : Str)) && glB sc ("sorted" : Str)) && (chkE N sc a l && !isStar l) | _ => false)
  | .sortk a x _, e => (match e with | .Call (.Name y _) [l] [⟨some kw, .Name z _, _⟩] _ => ((decide (y = ("sorted" : Str)) && glB sc ("sorted" : Str)) && (decide (kw = ("key" : Str)) && (decide (z = x) && (glB sc x && nmOk x)))) && (chkE N sc a l && !isStar l) | _ => false)
  | .list a, e => (match e with | .Call (.Name y _) [l] [] _ => (decide (y = ("list" : Str)) && glB sc ("list" : Str)) && (chkE N sc a l && !isStar l) | _ => false)
  | .rev a, e => (match e with | .Subscript l (.Slice none none (some (.UnaryOp .USub (.Constant (.int i) _ _) _)) _) _ => decide (i = 1) && chkE N sc a l | _ => false)
  | .lrng a b, e => (match e with | .Call (.Name y _) [.Call (.Name z _) [l, r] [] _] [] _ => ((decide (y = ("list" : Str)) && glB sc ("list" : Str)) && (decide (z = ("range" : Str)) && glB sc ("range" : Str))) && ((chkE N sc a l && !isStar l) && (chkE N sc b r && !isStar r)) | _ => false)
  | .stp a k, e => (match e with | .Subscript l (.Slice none none (some (.Constant (.int i) _ _)) _) _ => (decide (i = (k : Int)) && decide (0 < k)) && chkE N sc a l | _ => false)
  | .cat a b, e => (match e with | .BinOp l .Add r _ => chkE N sc a l && chkE N sc b r | _ => false)
  | .srtd a, e => (match e with | .Call (.Name y _) [l] [] _ => (decide (y = ("sorted" : Str)) && glB sc ("sorted" : Str)) && (chkE N sc a l && !isStar l) | _ => false)
  | .keys a, e => (match e with | .Call (.Name y _) [.Call (.Attribute l at_ apos) [] [] cpos] [] _ => (decide (y = ("list" : Str)) && (glB sc ("list" : Str) && decide (at_ = ("keys" : Str)))) && ((chkE N sc a l && !isCall l) && (apos.endLine == cpos.line)) | _ => false)
def chkI (N : List Str) (sc : Scope) : CI → PySem.Expr → PySem.Expr → Bool
  | .seq a, _, e => chkE N sc a e
  | .rng1 a, _, e => (match e with | .Call (.Name y _) [l] [] _ => (decide (y = ("range" : Str)) && glB sc ("range" : Str)) && (chkE N sc a l && !isStar l) | _ => false)
  | .rng2 a b, _, e => (match e with | .Call (.Name y _) [l, r] [] _ => (decide (y = ("range" : Str)) && glB sc ("range" : Str)) && ((chkE N sc a l && !isStar l) && (chkE N sc b r && !isStar r)) | _ => false)
  | .rng3 a b c, _, e => (match e with | .Call (.Name y _) [l, r, m] [] _ => (decide (y = ("range" : Str)) && glB sc ("range" : Str)) && ((chkE N sc a l && !isStar l) && ((chkE N sc b r && !isStar r) && (chkE N sc c m && !isStar m))) | _ => false)
  | .enum a, tg, e => (match tg with
    | .Tuple _ _ _ => (match e with | .Call (.Name y _) [l] [] _ => (decide (y = ("enumerate" : Str)) && glB sc ("enumerate" : Str)) && (chkE N sc a l && !isStar l) | _ => false)
    | _ => false)
  | .text a, _, e => chkE N sc a e
  | .cell i, _, e => varB N sc i e
  | .cellE a, _, e => chkE N sc a e
end
/-! ### what the calls and the module's names stand for -/
mutual
def CE.good (G : Str → Fn → Prop) (GD : Str → D → Prop) : CE → Prop
  | .glob x d => GD x d
  | .bin _ a b => a.good G GD ∧ b.good G GD
  | .neg a => a.good G GD
  | .not a => a.good G GD
  | .band es => es.good G GD
  | .bor es => es.good G GD
  | .cmp _ a b => a.good G GD ∧ b.good G GD
  | .chain _ _ a b c => a.good G GD ∧ b.good G GD ∧ c.good G GD
  | .isN a => a.good G GD
  | .notN a => a.good G GD
  | .ite c a b => c.good G GD ∧ a.good G GD ∧ b.good G GD
  | .call x g es => G x g ∧ es.good G GD
  | .bi _ es => es.good G GD
  | .tup es => es.good G GD
  | .new _ l => l.good G GD
  | .dcomp _ _ it c k v => it.good G GD ∧ c.good G GD ∧ k.good G GD ∧ v.good G GD
  | .cnt a b => a.good G GD ∧ b.good G GD
  | .dgetd a b c => a.good G GD ∧ b.good G GD ∧ c.good G GD
  | .join a b => a.good G GD ∧ b.good G GD
  | .ix a b => a.good G GD ∧ b.good G GD
  | .sl a lo hi => a.good G GD ∧ lo.good G GD ∧ hi.good G GD
  | _ => True
def CO.good (G : Str → Fn → Prop) (GD : Str → D → Prop) : CO → Prop
  | .none => True
  | .some e => e.good G GD
def CEs.good (G : Str → Fn → Prop) (GD : Str → D → Prop) : CEs → Prop
  | .nil => True
  | .cons e es => e.good G GD ∧ es.good G GD
def CL.good (G : Str → Fn → Prop) (GD : Str → D → Prop) : CL → Prop
  | .disp es => es.good G GD
  | .comp _ _ it c e => it.good G GD ∧ c.good G GD ∧ e.good G GD
  | .sorted e => e.good G GD
  | .sortk e x g => e.good G GD ∧ G x g
  | .list e => e.good G GD
  | .rev e => e.good G GD
  | .lrng a b => a.good G GD ∧ b.good G GD
  | .stp e _ => e.good G GD
  | .cat a b => a.good G GD ∧ b.good G GD
  | .keys e => e.good G GD
  | .srtd e => e.good G GD
def CI.good (G : Str → Fn → Prop) (GD : Str → D → Prop) : CI → Prop
  | .seq e => e.good G GD
  | .rng1 a => a.good G GD
  | .rng2 a b => a.good G GD ∧ b.good G GD
  | .rng3 a b c => a.good G GD ∧ b.good G GD ∧ c.good G GD
  | .enum e => e.good G GD
  | .text e => e.good G GD
  | .cell _ => True
  | .cellE e => e.good G GD
end
theorem takesN {X : Cx} : L2N.Takes X (fun _ _ _ _ => False) := fun _ _ ⟨_, _, _, _, _, _, _, _, _, _, _, _, _, _, _, _, w⟩ => w.elim
structure Ctx (G : Str → Fn → Prop) (GD : Str → D → Prop) (N : List Str) (sc : Scope) (fnB : Str → Bool) (X : Cx) : Prop where
  n : X.N = N
  nd : N.Nodup
  sc : X.env.scope = sc
  calm : X.calm = true
  hu : X.A.units + 65 < cLine
  fn : ∀ x, fnB x = true → X.fn x = true
  call : ∀ x g, G x g → ∃ lv, CalOk X.prog X.w X.K X.mg X.base lv x g ∧ Room (lv + 2) X.A
  glob : ∀ x d, GD x d → ∃ u v, X.mg x = some u ∧ RelV v u ∧ ∀ hid ρ H, Rep X.K hid ρ H v d
  bi : ∀ x, x ∈ biNames → X.mg x = none
section
variable {G : Str → Fn → Prop} {GD : Str → D → Prop} {N : List Str} {sc scope : Scope} {fnB : Str → Bool} {X : Cx} {W : WX}
theorem Ctx.vis {i : Nat} {e : PySem.Expr} (C : Ctx G GD N sc fnB X) (h : varB N sc i e = true) : ∃ x p, e = .Name x p ∧ X.N[i]? = some x ∧ Vis X.env.scope x ∧ (x == ("__debug__" : Str)) = false ∧ (x == ("__classdict__" : Str)) = false := by
  unfold varB at h
  split at h
  · rename_i x p
    simp only [Bool.and_eq_true, decide_eq_true_eq, nmOk, Bool.not_eq_true'] at h
    obtain ⟨h1, h2, h3, h4⟩ := h
    refine ⟨x, p, rfl, by rw [C.n]; exact h1, ?_, h3, h4⟩
    rw [C.sc]
    unfold visB at h2
    unfold Vis
    split at h2 <;> first | exact .inl (by assumption) | exact .inr (.inl (by assumption)) | exact .inr (.inr (by assumption)) | cases h2
  · cases h
theorem Ctx.gl {x : Str} (C : Ctx G GD N sc fnB X) (h : glB sc x = true) : Gl X x := by
  unfold glB at h
  show X.env.scope.names.lookup x = _
  rw [C.sc]
  split at h
  · assumption
  · cases h
theorem nm_db {x : Str} (h : nmOk x = true) : (x == ("__debug__" : Str)) = false := by
  simp only [nmOk, Bool.and_eq_true, Bool.not_eq_true'] at h
  exact h.1
theorem Ctx.blk (C : Ctx G GD N sc fnB X) {own : List (Str × Nat)} (s : Shared) (H : Hp) (A : Addr) (cl : List (Str × Addr)) (fp : List Addr) : Ctx G GD N (relS scope sc) (blkFn scope) (X.blk s H scope (compEnvC scope cl A X.env) fp) :=
  ⟨C.n, C.nd, by rw [← C.sc]; rfl, C.calm, C.hu, fun x h => h, C.call, C.glob, C.bi⟩
theorem nameAt_ok {i : Nat} {e : PySem.Expr} (C : Ctx G GD N sc fnB X) (h : nameAt N sc fnB i e = true) : ∃ x p, e = .Name x p ∧ X.N[i]? = some x ∧ Loc X.env.scope x ∧ (X.fn x = true ∨ X.env.scope.names.lookup x = some .local) := by
  unfold nameAt at h
  split at h
  · rename_i x p
    simp only [Bool.and_eq_true, decide_eq_true_eq] at h
    refine ⟨x, p, rfl, by rw [C.n]; exact h.1, ?_⟩
    have h2 := h.2
    unfold locB at h2
    rw [← C.sc] at h2
    split at h2
    · rename_i q; exact ⟨.inl q, .inr q⟩
    · rename_i q; exact ⟨.inr q, .inl (C.fn x h2)⟩
    · cases h2
  · cases h
theorem namesAt_ok (C : Ctx G GD N sc fnB X) : ∀ {is : List Nat} {es : List PySem.Expr}, namesAt N sc fnB is es = true → es.length = is.length ∧
    (∀ (j : Nat) (x : Str) (q : Pos), es[j]? = some (.Name x q) → ∃ i, is[j]? = some i ∧ X.N[i]? = some x ∧ Loc X.env.scope x ∧ (X.fn x = true ∨ X.env.scope.names.lookup x = some .local)) ∧ (es.all fun e => match e with | .Name _ _ => true | _ => false) = true
  | [], [], _ => ⟨rfl, fun j x q h => by simp at h, rfl⟩
  | i :: is, e :: es, h => by
    simp only [namesAt, Bool.and_eq_true] at h
    obtain ⟨h1, h2⟩ := h
    obtain ⟨x, p, rfl, q1, q2, q3⟩ := nameAt_ok C h1
    obtain ⟨r1, r2, r3⟩ := namesAt_ok C h2
    refine ⟨by simp [r1], fun j y q hj => ?_, by simpa using r3⟩
    cases j with
    | zero =>
      simp at hj
      obtain ⟨rfl, rfl⟩ := hj
      exact ⟨i, rfl, q1, q2, q3⟩
    | succ j => simpa using r2 j y q (by simpa using hj)
  | [], _ :: _, h => by simp [namesAt] at h
  | _ :: _, [], h => by simp [namesAt] at h
theorem tg_ok {t : Tg} {e : PySem.Expr} (C : Ctx G GD N sc fnB X) (h : tgB N sc fnB t e = true) : PG X e (gOf X.K t) := by
  cases t with
  | name i =>
    obtain ⟨x, p, rfl, q1, q2, q3⟩ := nameAt_ok C (show nameAt N sc fnB i e = true from h)
    exact pg_name (by rw [C.n]; exact C.nd) q1 q2 q3
  | tup is =>
    simp only [tgB] at h
    split at h
    · obtain ⟨h1, h2, h3⟩ := namesAt_ok C h
      exact pg_tg C.calm (by rw [C.n]; exact C.nd) h1 h2 h3
    · cases h
theorem set_fold {iter : PySem.Expr} (h : notSet iter = true) (env : Env) : ∀ x, foldedSetIterable iter env x = pure x := by
  intro x
  cases iter <;> first | rfl | cases h
theorem set_marks {op : CmpOp} {e : PySem.Expr} (h : notSet e = true) : behindInMarks op e = false := by
  cases e <;> first | rfl | cases h
/-! ### what is checked is read so -/
structure EOk (X : Cx) (W : WX) (c : CE) (e : PySem.Expr) : Prop where
  pe : PE X e (tE X W c)
  pt : c.tst = true → PT X e (tT X W c)
structure EsOk (X : Cx) (W : WX) (cs : CEs) (es : List PySem.Expr) : Prop where
  pa : (es.all fun e => !isStar e) = true → PA X es (tA X W cs)
  an : ∀ pos, es ≠ [] → PE X (.BoolOp .And es pos) (tAndS X W cs)
  or : ∀ pos, es ≠ [] → PE X (.BoolOp .Or es pos) (tOrS X W cs)
  tan : ∀ pos, es ≠ [] → cs.tst = true → PW X (.BoolOp .And es pos) (tAndT X W cs)
  tor : ∀ pos, es ≠ [] → cs.tst = true → PW X (.BoolOp .Or es pos) (tOrT X W cs)
end
end MI
namespace MI
open PySem PySem.Spec L2
section
variable {G : Str → Fn → Prop} {GD : Str → D → Prop}
theorem eok_plain {X : Cx} {W : WX} {c : CE} {e : PySem.Expr} (h : PE X e (tE X W c)) (hp : ∀ env whole, isTrue e env whole = (do let v ← whole; standAt e.pos; holding [v] (truthy v))) : EOk X W c e := ⟨h, fun _ => t_val h (hp X.env)⟩
mutual
theorem snd_E : ∀ (c : CE) {N : List Str} {sc : Scope} {fnB : Str → Bool} {X : Cx} {W : WX} {e : PySem.Expr}, Ctx G GD N sc fnB X → L2N.Takes X W → chkE N sc c e = true → c.good G GD → EOk X W c e
  | .var i, N, sc, fnB, X, W, e, C, tk, h, g => by
    obtain ⟨x, p, rfl, q1, q2, q3, q4⟩ := C.vis (show varB N sc i e = true from h)
    exact eok_plain (s_var q1 q2 q3 q4) fun env => plain_test rfl
  | .frz i, N, sc, fnB, X, W, e, C, tk, h, g => by
    obtain ⟨x, p, rfl, q1, q2, q3, q4⟩ := C.vis (show varB N sc i e = true from h)
    exact eok_plain (s_frz q1 q2 q3 q4) fun env => plain_test rfl
  | .non, N, sc, fnB, X, W, e, C, tk, h, g => by
    unfold chkE at h
    split at h
    · exact eok_plain (s_const pe_non (fun _ _ => rfl) fun _ _ _ => .non) fun env => plain_test rfl
    · cases h
  | .bl b, N, sc, fnB, X, W, e, C, tk, h, g => by
    unfold chkE at h
    split at h
    · have q := beq_iff_eq.mp h
      subst q
      exact eok_plain (s_const pe_bl (fun _ _ => rfl) fun _ _ _ => .bl _) fun env => plain_test rfl
    · cases h
  | .int i, N, sc, fnB, X, W, e, C, tk, h, g => by
    unfold chkE at h
    split at h
    · have q := beq_iff_eq.mp h
      subst q
      exact eok_plain (s_const pe_int (fun _ _ => rfl) fun _ _ _ => .int _) fun env => plain_test rfl
    · cases h
  | .str s, N, sc, fnB, X, W, e, C, tk, h, g => by
    unfold chkE at h
    split at h
    · have q := beq_iff_eq.mp h
      subst q
      exact eok_plain (s_const pe_str (fun _ _ => rfl) fun _ _ _ => .str _) fun env => plain_test rfl
    · cases h
  | .glob x d, N, sc, fnB, X, W, e, C, tk, h, g => by
    unfold chkE at h
    split at h
    · obtain ⟨h1, h2⟩ := and2 h
      obtain ⟨h3, h4⟩ := and2 h2
      have q := of_decide_eq_true h1
      subst q
      obtain ⟨u, v, m1, m2, m3⟩ := C.glob _ _ (show GD x d from g)
      exact eok_plain (s_const (pe_glob (C.gl h3) m1 m2 (nm_db h4)) (fun _ _ => rfl) m3) fun env => plain_test rfl
    · cases h
  | .bin op a b, N, sc, fnB, X, W, e, C, tk, h, g => by
    unfold chkE at h
    split at h
    · obtain ⟨h1, h2⟩ := and2 h
      obtain ⟨h3, h4⟩ := and2 h2
      have q := of_decide_eq_true h1
      subst q
      exact eok_plain (s_bin (snd_E a C tk h3 g.1).pe (snd_E b C tk h4 g.2).pe) fun env => plain_test rfl
    · cases h
  | .neg a, N, sc, fnB, X, W, e, C, tk, h, g => by
    unfold chkE at h
    split at h
    · exact eok_plain (s_neg (snd_E a C tk h g).pe) fun env => plain_test rfl
    · cases h
  | .not a, N, sc, fnB, X, W, e, C, tk, h, g => by
    unfold chkE at h
    split at h
    · have q := snd_E a C tk h g
      exact ⟨s_not q.pe, fun t => t_not (q.pt t)⟩
    · cases h
  | .band es, N, sc, fnB, X, W, e, C, tk, h, g => by
    unfold chkE at h
    split at h
    · obtain ⟨h1, h2⟩ := and2 h
      rename_i ls p
      have hn : ls ≠ [] := by rintro rfl; cases h2
      have q := snd_Es es C tk h1 g
      exact ⟨q.an _ hn, fun t => (q.tan _ hn t).pt⟩
    · cases h
  | .bor es, N, sc, fnB, X, W, e, C, tk, h, g => by
    unfold chkE at h
    split at h
    · obtain ⟨h1, h2⟩ := and2 h
      rename_i ls p
      have hn : ls ≠ [] := by rintro rfl; cases h2
      have q := snd_Es es C tk h1 g
      exact ⟨q.or _ hn, fun t => (q.tor _ hn t).pt⟩
    · cases h
  | .cmp op a b, N, sc, fnB, X, W, e, C, tk, h, g => by
    unfold chkE at h
    split at h
    · obtain ⟨h1, h2⟩ := and2 h
      obtain ⟨h3, h4⟩ := and2 h2
      obtain ⟨h5, h6⟩ := and2 h3
      have q := of_decide_eq_true h1
      subst q
      have qa := (snd_E a C tk h5 g.1).pe
      have qb := (snd_E b C tk h6 g.2).pe
      exact ⟨s_cmp C.hu qa qb (set_marks h4), fun _ => t_cmp C.hu qa qb (set_marks h4)⟩
    · cases h
  | .chain op op' a b c, N, sc, fnB, X, W, e, C, tk, h, g => by
    unfold chkE at h
    split at h
    · obtain ⟨h1, h2⟩ := and2 h
      obtain ⟨h3, h4⟩ := and2 h1
      obtain ⟨h5, h6⟩ := and2 h2
      obtain ⟨h7, h8⟩ := and2 h5
      obtain ⟨h9, h10⟩ := and2 h7
      have q := of_decide_eq_true h3
      subst q
      have q := of_decide_eq_true h4
      subst q
      have qa := (snd_E a C tk h9 g.1).pe
      have qb := (snd_E b C tk h10 g.2.1).pe
      have qc := (snd_E c C tk h8 g.2.2).pe
      exact ⟨s_chain C.hu qa qb qc (set_marks h6), fun _ => t_chain C.hu qa qb qc (set_marks h6)⟩
    · cases h
  | .isN a, N, sc, fnB, X, W, e, C, tk, h, g => by
    unfold chkE at h
    split at h
    · have q := (snd_E a C tk h g).pe
      exact ⟨s_isN q, fun _ => t_isN q⟩
    · cases h
  | .notN a, N, sc, fnB, X, W, e, C, tk, h, g => by
    unfold chkE at h
    split at h
    · have q := (snd_E a C tk h g).pe
      exact ⟨s_notN q, fun _ => t_notN q⟩
    · cases h
  | .ite c a b, N, sc, fnB, X, W, e, C, tk, h, g => by
    unfold chkE at h
    split at h
    · obtain ⟨h1, h2⟩ := and2 h
      obtain ⟨h3, h4⟩ := and2 h1
      obtain ⟨h5, h6⟩ := and2 h2
      exact ⟨s_ite ((snd_E c C tk h4 g.1).pt h3) (snd_E a C tk h5 g.2.1).pe (snd_E b C tk h6 g.2.2).pe, fun t => by cases t⟩
    · cases h
  | .call x f es, N, sc, fnB, X, W, e, C, tk, h, g => by
    unfold chkE at h
    split at h
    · obtain ⟨h1, h2⟩ := and2 h
      obtain ⟨h3, h4⟩ := and2 h1
      obtain ⟨h5, h6⟩ := and2 h4
      obtain ⟨h7, h8⟩ := and2 h2
      have q := of_decide_eq_true h3
      subst q
      obtain ⟨lv, q1, q2⟩ := C.call _ _ g.1
      exact eok_plain (s_call q1 (q2.mono (Nat.le_add_right _ _)) tk (C.gl h5) (nm_db h6) ((snd_Es es C tk h7 g.2).pa h8) h8) fun env => plain_test rfl
    · cases h
  | .bi f es, N, sc, fnB, X, W, e, C, tk, h, g => by
    unfold chkE at h
    split at h
    · split at h
      · rename_i hb
        obtain ⟨h1, h2⟩ := and2 h
        obtain ⟨h3, h4⟩ := and2 h1
        obtain ⟨h7, h8⟩ := and2 h2
        have q := of_decide_eq_true h3
        subst q
        have hm : X.mg (biName f) = none := C.bi _ (by cases f <;> first | (cases hb; done) | decide +kernel)
        exact eok_plain (s_bi C.calm C.hu hb (C.gl h4) hm ((snd_Es es C tk h7 g).pa h8) h8) fun env => plain_test rfl
      · split at h
        · obtain ⟨h1, h2⟩ := and2 h
          obtain ⟨h3, h4⟩ := and2 h1
          obtain ⟨h5, h6⟩ := and2 h4
          obtain ⟨h7, h8⟩ := and2 h2
          obtain ⟨h9, h10⟩ := and2 h7
          obtain ⟨h11, h12⟩ := and2 h8
          obtain ⟨h13, h14⟩ := and2 h12
          have q := of_decide_eq_true h9
          subst q
          split at h14
          · rename_i T pT c
            exact eok_plain (s_isi h5 h3 (C.gl h10) (C.bi _ (by decide +kernel)) (C.gl h11) (C.bi _ (List.contains_iff_mem.mp h6)) (snd_E c C tk h14 g.1).pe (by simpa using h13)) fun env => plain_test rfl
          · cases h14
        · cases h
    · cases h
  | .tup es, N, sc, fnB, X, W, e, C, tk, h, g => by
    unfold chkE at h
    split at h
    · obtain ⟨h1, h2⟩ := and2 h
      obtain ⟨h3, h4⟩ := and2 h2
      exact eok_plain (s_tup (of_decide_eq_true h1) ((snd_Es es C tk h3 g).pa h4)) fun env => plain_test rfl
    · cases h
  | .new m l, N, sc, fnB, X, W, e, C, tk, h, g => by
    have q := snd_L l C tk (show chkL N sc l e = true from h) g
    exact eok_plain (s_new q.1) fun env => plain_test q.2
  | .dnew t, N, sc, fnB, X, W, e, C, tk, h, g => by
    unfold chkE at h
    split at h
    · cases t with
      | true => exact eok_plain s_dnewT fun env => plain_test rfl
      | false => exact eok_plain s_dnew fun env => plain_test rfl
    · cases h
  | .dcomp own t it c k v, N, sc, fnB, X, W, e, C, tk, h, g => by
    unfold chkE at h
    split at h
    · obtain ⟨h1, h2⟩ := and2 h
      obtain ⟨h3, h4⟩ := and2 h1
      obtain ⟨h5, h6⟩ := and2 h3
      obtain ⟨h7, h8⟩ := and2 h4
      obtain ⟨h9, h10⟩ := and2 h2
      obtain ⟨h11, h12⟩ := and2 h9
      obtain ⟨h13, h14⟩ := and2 h11
      refine eok_plain (s_dcomp tk ⟨C.calm, by rw [C.n]; exact C.nd, fun W tk => snd_I it C tk h7 g.1, by rw [C.n, C.sc]; exact blkOk_by h5, fun i hi => ?_, fun s H A cl fp => tg_ok (C.blk (own := own) s H A cl fp) h8,
        fun s H A cl fp => snd_C c (C.blk (own := own) s H A cl fp) takesN h13 g.2.1, fun s H A cl fp => (snd_E k (C.blk (own := own) s H A cl fp) takesN h14 g.2.2.1).pe, fun s H A cl fp => (snd_E v (C.blk (own := own) s H A cl fp) takesN h12 g.2.2.2).pe, set_fold h10 _⟩) fun env => plain_test rfl
      have := List.all_eq_true.mp h6 i hi
      exact of_decide_eq_true this
    · cases h
  | .cnt a b, N, sc, fnB, X, W, e, C, tk, h, g => by
    unfold chkE at h
    split at h
    · obtain ⟨h1, h2⟩ := and2 h
      obtain ⟨h3, h4⟩ := and2 h1
      obtain ⟨h5, h6⟩ := and2 h4
      obtain ⟨h9, h10⟩ := and2 h2
      obtain ⟨h11, h12⟩ := and2 h9
      have q := of_decide_eq_true h3
      subst q
      exact eok_plain (s_cnt (snd_E a C tk h5 g.1).pe (snd_E b C tk h6 g.2).pe (by simpa using h12) (by simpa using h11) h10) fun env => plain_test rfl
    · cases h
  | .dgetd a b c, N, sc, fnB, X, W, e, C, tk, h, g => by
    unfold chkE at h
    split at h
    · obtain ⟨h1, h2⟩ := and2 h
      obtain ⟨h3, h4⟩ := and2 h1
      obtain ⟨h5, h6⟩ := and2 h4
      obtain ⟨h7, h8⟩ := and2 h6
      obtain ⟨h9, h10⟩ := and2 h2
      obtain ⟨h11, h12⟩ := and2 h9
      obtain ⟨h13, h14⟩ := and2 h12
      have q := of_decide_eq_true h3
      subst q
      exact eok_plain (s_dgetd C.hu (snd_E a C tk h5 g.1).pe (snd_E b C tk h7 g.2.1).pe (snd_E c C tk h8 g.2.2).pe (by simpa using h11) (by simpa using h13) (by simpa using h14) h10) fun env => plain_test rfl
    · cases h
  | .join a b, N, sc, fnB, X, W, e, C, tk, h, g => by
    unfold chkE at h
    split at h
    · obtain ⟨h1, h2⟩ := and2 h
      obtain ⟨h3, h4⟩ := and2 h1
      obtain ⟨h5, h6⟩ := and2 h4
      obtain ⟨h9, h10⟩ := and2 h2
      obtain ⟨h11, h12⟩ := and2 h9
      have q := of_decide_eq_true h3
      subst q
      exact eok_plain (s_join (snd_E a C tk h5 g.1).pe (snd_E b C tk h6 g.2).pe (by simpa using h11) (by simpa using h12) h10) fun env => plain_test rfl
    · cases h
  | .ix a b, N, sc, fnB, X, W, e, C, tk, h, g => by
    unfold chkE at h
    split at h
    · obtain ⟨h1, h2⟩ := and2 h
      obtain ⟨h3, h4⟩ := and2 h1
      exact eok_plain (s_ix C.hu (snd_E a C tk h3 g.1).pe (snd_E b C tk h4 g.2).pe (by simpa using h2)) fun env => plain_test rfl
    · cases h
  | .sl a lo hi, N, sc, fnB, X, W, e, C, tk, h, g => by
    unfold chkE at h
    split at h
    · obtain ⟨h1, h2⟩ := and2 h
      obtain ⟨h3, h4⟩ := and2 h2
      exact eok_plain (s_sl (snd_E a C tk h1 g.1).pe (snd_N lo C tk h3 g.2.1) (snd_N hi C tk h4 g.2.2)) fun env => plain_test rfl
    · cases h
theorem snd_Es : ∀ (cs : CEs) {N : List Str} {sc : Scope} {fnB : Str → Bool} {X : Cx} {W : WX} {es : List PySem.Expr}, Ctx G GD N sc fnB X → L2N.Takes X W → chkEs N sc cs es = true → cs.good G GD → EsOk X W cs es
  | .nil, N, sc, fnB, X, W, es, C, tk, h, g => by
    unfold chkEs at h
    split at h
    · exact ⟨fun _ => s_anil, fun _ n => (n rfl).elim, fun _ n => (n rfl).elim, fun _ n => (n rfl).elim, fun _ n => (n rfl).elim⟩
    · cases h
  | .cons c cs, N, sc, fnB, X, W, es, C, tk, h, g => by
    unfold chkEs at h
    split at h
    · rename_i l ls
      obtain ⟨h1, h2⟩ := and2 h
      have q := snd_E c C tk h1 g.1
      have qs := snd_Es cs C tk h2 g.2
      refine ⟨fun hs => ?_, fun pos _ => ?_, fun pos _ => ?_, fun pos _ t => ?_, fun pos _ t => ?_⟩
      · obtain ⟨s1, s2⟩ := and2 (show (!isStar l && ls.all fun e => !isStar e) = true by simpa using hs)
        exact s_acons q.pe (qs.pa s2) (by simpa using s1)
      · cases ls with
        | nil =>
          cases cs with
          | nil => exact s_and1 q.pe
          | cons c2 cs => simp [chkEs] at h2
        | cons l2 ls =>
          cases cs with
          | nil => simp [chkEs] at h2
          | cons c2 cs => exact s_andc q.pe (qs.an pos (by simp))
      · cases ls with
        | nil =>
          cases cs with
          | nil => exact s_or1 q.pe
          | cons c2 cs => simp [chkEs] at h2
        | cons l2 ls =>
          cases cs with
          | nil => simp [chkEs] at h2
          | cons c2 cs => exact s_orc q.pe (qs.or pos (by simp))
      · obtain ⟨t1, t2⟩ := and2 (show (c.tst && cs.tst) = true from t)
        cases ls with
        | nil =>
          cases cs with
          | nil => exact t_and1 (q.pt t1)
          | cons c2 cs => simp [chkEs] at h2
        | cons l2 ls =>
          cases cs with
          | nil => simp [chkEs] at h2
          | cons c2 cs => exact t_andc (q.pt t1) (qs.tan pos (by simp) t2)
      · obtain ⟨t1, t2⟩ := and2 (show (c.tst && cs.tst) = true from t)
        cases ls with
        | nil =>
          cases cs with
          | nil => exact t_or1 (q.pt t1)
          | cons c2 cs => simp [chkEs] at h2
        | cons l2 ls =>
          cases cs with
          | nil => simp [chkEs] at h2
          | cons c2 cs => exact t_orc (q.pt t1) (qs.tor pos (by simp) t2)
    · cases h
theorem snd_N : ∀ (c : CO) {N : List Str} {sc : Scope} {fnB : Str → Bool} {X : Cx} {W : WX} {o : Option PySem.Expr}, Ctx G GD N sc fnB X → L2N.Takes X W → chkN N sc c o = true → c.good G GD → PO X o (tO X W c)
  | .none, N, sc, fnB, X, W, o, C, tk, h, g => by
    unfold chkN at h
    split at h
    · exact s_none
    · cases h
  | .some e, N, sc, fnB, X, W, o, C, tk, h, g => by
    unfold chkN at h
    split at h
    · exact s_some (snd_E e C tk h g).pe
    · cases h
theorem snd_C : ∀ (c : CO) {N : List Str} {sc : Scope} {fnB : Str → Bool} {X : Cx} {o : List PySem.Expr}, Ctx G GD N sc fnB X → L2N.Takes X W0 → chkC N sc c o = true → c.good G GD → PTs X o (tCt X c)
  | .none, N, sc, fnB, X, o, C, tk, h, g => by
    unfold chkC at h
    split at h
    · exact pts_nil
    · cases h
  | .some e, N, sc, fnB, X, o, C, tk, h, g => by
    unfold chkC at h
    split at h
    · obtain ⟨h1, h2⟩ := and2 h
      exact pts_one ((snd_E e C tk h2 g).pt h1)
    · cases h
theorem snd_L : ∀ (l : CL) {N : List Str} {sc : Scope} {fnB : Str → Bool} {X : Cx} {W : WX} {e : PySem.Expr}, Ctx G GD N sc fnB X → L2N.Takes X W → chkL N sc l e = true → l.good G GD →
    PE X e (tL X W l) ∧ (match e with | .UnaryOp .Not _ _ => false | .BoolOp _ _ _ => false | .IfExp _ _ _ _ => false | .Compare _ _ _ _ => false | _ => true) = true
  | .disp es, N, sc, fnB, X, W, e, C, tk, h, g => by
    unfold chkL at h
    split at h
    · obtain ⟨h1, h2⟩ := and2 h
      obtain ⟨h3, h4⟩ := and2 h2
      exact ⟨s_disp (of_decide_eq_true h1) ((snd_Es es C tk h3 g).pa h4), rfl⟩
    · cases h
  | .comp own t it c elt, N, sc, fnB, X, W, e, C, tk, h, g => by
    unfold chkL at h
    split at h
    · obtain ⟨h1, h2⟩ := and2 h
      obtain ⟨h3, h4⟩ := and2 h1
      obtain ⟨h5, h6⟩ := and2 h3
      obtain ⟨h7, h8⟩ := and2 h4
      obtain ⟨h9, h10⟩ := and2 h2
      obtain ⟨h11, h12⟩ := and2 h9
      refine ⟨s_comp tk ⟨C.calm, by rw [C.n]; exact C.nd, fun W tk => snd_I it C tk h7 g.1, by rw [C.n, C.sc]; exact blkOk_by h5, fun i hi => ?_, fun s H A cl fp => tg_ok (C.blk (own := own) s H A cl fp) h8,
        fun s H A cl fp => snd_C c (C.blk (own := own) s H A cl fp) takesN h11 g.2.1, fun s H A cl fp => (snd_E elt (C.blk (own := own) s H A cl fp) takesN h12 g.2.2).pe, set_fold h10 _⟩, rfl⟩
      have := List.all_eq_true.mp h6 i hi
      exact of_decide_eq_true this
    · cases h
  | .sorted a, N, sc, fnB, X, W, e, C, tk, h, g => by
    unfold chkL at h
    split at h
    · obtain ⟨h1, h2⟩ := and2 h
      obtain ⟨h3, h4⟩ := and2 h1
      obtain ⟨h5, h6⟩ := and2 h2
      have q := of_decide_eq_true h3
      subst q
      exact ⟨s_sorted C.hu (C.gl h4) (C.bi _ (by decide +kernel)) (snd_E a C tk h5 g).pe (by simpa using h6), rfl⟩
    · cases h
  | .sortk a x f, N, sc, fnB, X, W, e, C, tk, h, g => by
    unfold chkL at h
    split at h
    · obtain ⟨h1, h2⟩ := and2 h
      obtain ⟨h3, h4⟩ := and2 h1
      obtain ⟨h5, h6⟩ := and2 h3
      obtain ⟨h7, h8⟩ := and2 h4
      obtain ⟨h9, h10⟩ := and2 h8
      obtain ⟨h11, h12⟩ := and2 h10
      obtain ⟨h13, h14⟩ := and2 h2
      have q := of_decide_eq_true h5
      subst q
      have q := of_decide_eq_true h7
      subst q
      have q := of_decide_eq_true h9
      subst q
      obtain ⟨lv, q1, q2⟩ := C.call _ _ g.2
      exact ⟨s_sortk C.calm C.hu (C.gl h6) (C.bi _ (by decide +kernel)) q1 q2 (C.gl h11) (nm_db h12) (snd_E a C tk h13 g.1).pe (by simpa using h14), rfl⟩
    · cases h
  | .list a, N, sc, fnB, X, W, e, C, tk, h, g => by
    unfold chkL at h
    split at h
    · obtain ⟨h1, h2⟩ := and2 h
      obtain ⟨h3, h4⟩ := and2 h1
      obtain ⟨h5, h6⟩ := and2 h2
      have q := of_decide_eq_true h3
      subst q
      exact ⟨s_list (C.gl h4) (C.bi _ (by decide +kernel)) (snd_E a C tk h5 g).pe (by simpa using h6), rfl⟩
    · cases h
  | .rev a, N, sc, fnB, X, W, e, C, tk, h, g => by
    unfold chkL at h
    split at h
    · obtain ⟨h1, h2⟩ := and2 h
      have q := of_decide_eq_true h1
      subst q
      exact ⟨s_rev (snd_E a C tk h2 g).pe, rfl⟩
    · cases h
  | .lrng a b, N, sc, fnB, X, W, e, C, tk, h, g => by
    unfold chkL at h
    split at h
    · obtain ⟨h1, h2⟩ := and2 h
      obtain ⟨h3, h4⟩ := and2 h1
      obtain ⟨h5, h6⟩ := and2 h3
      obtain ⟨h7, h8⟩ := and2 h4
      obtain ⟨h9, h10⟩ := and2 h2
      obtain ⟨h11, h12⟩ := and2 h9
      obtain ⟨h13, h14⟩ := and2 h10
      have q1 := of_decide_eq_true h5
      have q2 := of_decide_eq_true h7
      subst q1 q2
      exact ⟨s_lrng C.calm (C.gl h6) (C.bi _ (by decide +kernel)) (C.gl h8) (C.bi _ (by decide +kernel)) (snd_E a C tk h11 g.1).pe (snd_E b C tk h13 g.2).pe (by simpa using h12) (by simpa using h14), rfl⟩
    · cases h
  | .stp a k, N, sc, fnB, X, W, e, C, tk, h, g => by
    unfold chkL at h
    split at h
    · obtain ⟨h1, h2⟩ := and2 h
      obtain ⟨h3, h4⟩ := and2 h1
      have q := of_decide_eq_true h3
      subst q
      exact ⟨s_stp (of_decide_eq_true h4) (snd_E a C tk h2 g).pe, rfl⟩
    · cases h
  | .cat a b, N, sc, fnB, X, W, e, C, tk, h, g => by
    unfold chkL at h
    split at h
    · obtain ⟨h1, h2⟩ := and2 h
      exact ⟨s_cat (snd_E a C tk h1 g.1).pe (snd_E b C tk h2 g.2).pe, rfl⟩
    · cases h
  | .srtd a, N, sc, fnB, X, W, e, C, tk, h, g => by
    unfold chkL at h
    split at h
    · obtain ⟨h1, h2⟩ := and2 h
      obtain ⟨h3, h4⟩ := and2 h1
      obtain ⟨h5, h6⟩ := and2 h2
      have q := of_decide_eq_true h3
      subst q
      exact ⟨s_srtd C.calm (C.gl h4) (C.bi _ (by decide +kernel)) (snd_E a C tk h5 g).pe (by simpa using h6), rfl⟩
    · cases h
  | .keys a, N, sc, fnB, X, W, e, C, tk, h, g => by
    unfold chkL at h
    split at h
    · obtain ⟨h1, h2⟩ := and2 h
      obtain ⟨h3, h4⟩ := and2 h1
      obtain ⟨h5, h6⟩ := and2 h4
      obtain ⟨h7, h8⟩ := and2 h2
      obtain ⟨h9, h10⟩ := and2 h7
      have q := of_decide_eq_true h3
      subst q
      have q := of_decide_eq_true h6
      subst q
      exact ⟨s_keys C.calm (C.gl h5) (C.bi _ (by decide +kernel)) (snd_E a C tk h9 g).pe (by simpa using h10) h8, rfl⟩
    · cases h
theorem snd_I : ∀ (it : CI) {N : List Str} {sc : Scope} {fnB : Str → Bool} {X : Cx} {W : WX} {tg e : PySem.Expr}, Ctx G GD N sc fnB X → L2N.Takes X W → chkI N sc it tg e = true → it.good G GD → PI X tg e (tI X W it)
  | .seq a, N, sc, fnB, X, W, tg, e, C, tk, h, g => i_seq (snd_E a C tk (show chkE N sc a e = true from h) g).pe
  | .rng1 a, N, sc, fnB, X, W, tg, e, C, tk, h, g => by
    unfold chkI at h
    split at h
    · obtain ⟨h1, h2⟩ := and2 h
      obtain ⟨h3, h4⟩ := and2 h1
      obtain ⟨h5, h6⟩ := and2 h2
      have q := of_decide_eq_true h3
      subst q
      exact i_rng1 (C.gl h4) (C.bi _ (by decide +kernel)) (snd_E a C tk h5 g).pe (by simpa using h6)
    · cases h
  | .rng2 a b, N, sc, fnB, X, W, tg, e, C, tk, h, g => by
    unfold chkI at h
    split at h
    · obtain ⟨h1, h2⟩ := and2 h
      obtain ⟨h3, h4⟩ := and2 h1
      obtain ⟨h5, h6⟩ := and2 h2
      obtain ⟨h7, h8⟩ := and2 h5
      obtain ⟨h9, h10⟩ := and2 h6
      have q := of_decide_eq_true h3
      subst q
      exact i_rng2 (C.gl h4) (C.bi _ (by decide +kernel)) (snd_E a C tk h7 g.1).pe (snd_E b C tk h9 g.2).pe (by simpa using h8) (by simpa using h10)
    · cases h
  | .rng3 a b c, N, sc, fnB, X, W, tg, e, C, tk, h, g => by
    unfold chkI at h
    split at h
    · obtain ⟨h1, h2⟩ := and2 h
      obtain ⟨h3, h4⟩ := and2 h1
      obtain ⟨h5, h6⟩ := and2 h2
      obtain ⟨h7, h8⟩ := and2 h5
      obtain ⟨h9, h10⟩ := and2 h6
      obtain ⟨h11, h12⟩ := and2 h9
      obtain ⟨h13, h14⟩ := and2 h10
      have q := of_decide_eq_true h3
      subst q
      exact i_rng3 (C.gl h4) (C.bi _ (by decide +kernel)) (snd_E a C tk h7 g.1).pe (snd_E b C tk h11 g.2.1).pe (snd_E c C tk h13 g.2.2).pe (by simpa using h8) (by simpa using h12) (by simpa using h14)
    · cases h
  | .enum a, N, sc, fnB, X, W, tg, e, C, tk, h, g => by
    unfold chkI at h
    split at h
    · split at h
      · obtain ⟨h1, h2⟩ := and2 h
        obtain ⟨h3, h4⟩ := and2 h1
        obtain ⟨h5, h6⟩ := and2 h2
        have q := of_decide_eq_true h3
        subst q
        exact i_enum (C.gl h4) (C.bi _ (by decide +kernel)) (snd_E a C tk h5 g).pe (by simpa using h6)
      · cases h
    · cases h
  | .text a, N, sc, fnB, X, W, tg, e, C, tk, h, g => i_text (snd_E a C tk (show chkE N sc a e = true from h) g).pe
  | .cellE a, N, sc, fnB, X, W, tg, e, C, tk, h, g => i_cellE (snd_E a C tk (show chkE N sc a e = true from h) g).pe
  | .cell i, N, sc, fnB, X, W, tg, e, C, tk, h, g => by
    obtain ⟨x, p, rfl, q1, q2, q3, q4⟩ := C.vis (show varB N sc i e = true from h)
    exact i_cell q1 q2 q3 q4
end
end
end MI
namespace MI
open PySem PySem.Spec L2
/-! ### codes that can be read where an exception is handled -/
mutual
def CE.qt : CE → Bool
  | .var _ => true
  | .non => true
  | .bl _ => true
  | .int _ => true
  | .str _ => true
  | .not a => a.qt
  | .band es => es.qt
  | .bor es => es.qt
  | .cmp _ a b => a.qt && b.qt
  | .isN a => a.qt
  | .bi f es => !biCall f && es.qt
  | _ => false
def CEs.qt : CEs → Bool
  | .nil => true
  | .cons e es => e.qt && es.qt
end
structure CtxQ (N : List Str) (sc : Scope) (X : Cx) : Prop where
  n : X.N = N
  sc : X.env.scope = sc
  hu : X.A.units + 65 < cLine
  bi : ∀ x, x ∈ biNames → X.mg x = none
theorem CtxQ.vis {N : List Str} {sc : Scope} {X : Cx} {i : Nat} {e : PySem.Expr} (C : CtxQ N sc X) (h : varB N sc i e = true) : ∃ x p, e = .Name x p ∧ X.N[i]? = some x ∧ Vis X.env.scope x ∧ (x == ("__debug__" : Str)) = false ∧ (x == ("__classdict__" : Str)) = false := by
  unfold varB at h
  split at h
  · rename_i x p
    simp only [Bool.and_eq_true, decide_eq_true_eq, nmOk, Bool.not_eq_true'] at h
    obtain ⟨h1, h2, h3, h4⟩ := h
    refine ⟨x, p, rfl, by rw [C.n]; exact h1, ?_, h3, h4⟩
    rw [C.sc]
    unfold visB at h2
    unfold Vis
    split at h2 <;> first | exact .inl (by assumption) | exact .inr (.inl (by assumption)) | exact .inr (.inr (by assumption)) | cases h2
  · cases h
theorem CtxQ.gl {N : List Str} {sc : Scope} {X : Cx} {x : Str} (C : CtxQ N sc X) (h : glB sc x = true) : Gl X x := by
  unfold glB at h
  show X.env.scope.names.lookup x = _
  rw [C.sc]
  split at h
  · assumption
  · cases h
theorem qt1 {c : CE} (h : (CEs.cons c .nil).qt = true) : c.qt = true := (Bool.and_eq_true_iff.mp h).1
mutual
theorem snd_Q : ∀ (c : CE) {N : List Str} {sc : Scope} {X : Cx} {W : WX} {e : PySem.Expr}, CtxQ N sc X → L2N.Takes X W → chkE N sc c e = true → c.qt = true → EOk X W c e
  | .var i, N, sc, X, W, e, C, tk, h, g => by
    obtain ⟨x, p, rfl, q1, q2, q3, q4⟩ := C.vis (show varB N sc i e = true from h)
    exact eok_plain (s_var q1 q2 q3 q4) fun env => plain_test rfl
  | .frz i, N, sc, X, W, e, C, tk, h, g => by cases g
  | .non, N, sc, X, W, e, C, tk, h, g => by
    unfold chkE at h
    split at h
    · exact eok_plain (s_const pe_non (fun _ _ => rfl) fun _ _ _ => .non) fun env => plain_test rfl
    · cases h
  | .bl b, N, sc, X, W, e, C, tk, h, g => by
    unfold chkE at h
    split at h
    · have q := beq_iff_eq.mp h
      subst q
      exact eok_plain (s_const pe_bl (fun _ _ => rfl) fun _ _ _ => .bl _) fun env => plain_test rfl
    · cases h
  | .int i, N, sc, X, W, e, C, tk, h, g => by
    unfold chkE at h
    split at h
    · have q := beq_iff_eq.mp h
      subst q
      exact eok_plain (s_const pe_int (fun _ _ => rfl) fun _ _ _ => .int _) fun env => plain_test rfl
    · cases h
  | .str s, N, sc, X, W, e, C, tk, h, g => by
    unfold chkE at h
    split at h
    · have q := beq_iff_eq.mp h
      subst q
      exact eok_plain (s_const pe_str (fun _ _ => rfl) fun _ _ _ => .str _) fun env => plain_test rfl
    · cases h
  | .glob x d, N, sc, X, W, e, C, tk, h, g => by cases g
  | .bin op a b, N, sc, X, W, e, C, tk, h, g => by cases g
  | .neg a, N, sc, X, W, e, C, tk, h, g => by cases g
  | .not a, N, sc, X, W, e, C, tk, h, g => by
    unfold chkE at h
    split at h
    · have q := snd_Q a C tk h g
      exact ⟨s_not q.pe, fun t => t_not (q.pt t)⟩
    · cases h
  | .band es, N, sc, X, W, e, C, tk, h, g => by
    unfold chkE at h
    split at h
    · obtain ⟨h1, h2⟩ := and2 h
      rename_i ls p
      have hn : ls ≠ [] := by rintro rfl; cases h2
      have q := snd_Qs es C tk h1 g
      exact ⟨q.an _ hn, fun t => (q.tan _ hn t).pt⟩
    · cases h
  | .bor es, N, sc, X, W, e, C, tk, h, g => by
    unfold chkE at h
    split at h
    · obtain ⟨h1, h2⟩ := and2 h
      rename_i ls p
      have hn : ls ≠ [] := by rintro rfl; cases h2
      have q := snd_Qs es C tk h1 g
      exact ⟨q.or _ hn, fun t => (q.tor _ hn t).pt⟩
    · cases h
  | .cmp op a b, N, sc, X, W, e, C, tk, h, g => by
    unfold chkE at h
    split at h
    · obtain ⟨h1, h2⟩ := and2 h
      obtain ⟨h3, h4⟩ := and2 h2
      obtain ⟨h5, h6⟩ := and2 h3
      have q := of_decide_eq_true h1
      subst q
      have qa := (snd_Q a C tk h5 (and2 g).1).pe
      have qb := (snd_Q b C tk h6 (and2 g).2).pe
      exact ⟨s_cmp C.hu qa qb (set_marks h4), fun _ => t_cmp C.hu qa qb (set_marks h4)⟩
    · cases h
  | .chain op op' a b c, N, sc, X, W, e, C, tk, h, g => by cases g
  | .isN a, N, sc, X, W, e, C, tk, h, g => by
    unfold chkE at h
    split at h
    · have q := (snd_Q a C tk h g).pe
      exact ⟨s_isN q, fun _ => t_isN q⟩
    · cases h
  | .notN a, N, sc, X, W, e, C, tk, h, g => by cases g
  | .ite c a b, N, sc, X, W, e, C, tk, h, g => by cases g
  | .call x f es, N, sc, X, W, e, C, tk, h, g => by cases g
  | .bi f es, N, sc, X, W, e, C, tk, h, g => by
    unfold chkE at h
    split at h
    · split at h
      · rename_i hb
        have g1 := (and2 (show (!biCall f && es.qt) = true from g)).1
        rw [hb] at g1
        cases g1
      · split at h
        · obtain ⟨h1, h2⟩ := and2 h
          obtain ⟨h3, h4⟩ := and2 h1
          obtain ⟨h5, h6⟩ := and2 h4
          obtain ⟨h7, h8⟩ := and2 h2
          obtain ⟨h9, h10⟩ := and2 h7
          obtain ⟨h11, h12⟩ := and2 h8
          obtain ⟨h13, h14⟩ := and2 h12
          have q := of_decide_eq_true h9
          subst q
          split at h14
          · rename_i T pT c
            exact eok_plain (s_isi h5 h3 (C.gl h10) (C.bi _ (by decide +kernel)) (C.gl h11) (C.bi _ (List.contains_iff_mem.mp h6)) (snd_Q c C tk h14 (qt1 (and2 (show (!biCall f && (CEs.cons c .nil).qt) = true from g)).2)).pe (by simpa using h13)) fun env => plain_test rfl
          · cases h14
        · cases h
    · cases h
  | .tup es, N, sc, X, W, e, C, tk, h, g => by cases g
  | .new m l, N, sc, X, W, e, C, tk, h, g => by cases g
  | .dnew t, N, sc, X, W, e, C, tk, h, g => by cases g
  | .dcomp own t it c k v, N, sc, X, W, e, C, tk, h, g => by cases g
  | .cnt a b, N, sc, X, W, e, C, tk, h, g => by cases g
  | .dgetd a b c, N, sc, X, W, e, C, tk, h, g => by cases g
  | .join a b, N, sc, X, W, e, C, tk, h, g => by cases g
  | .ix a b, N, sc, X, W, e, C, tk, h, g => by cases g
  | .sl a lo hi, N, sc, X, W, e, C, tk, h, g => by cases g
theorem snd_Qs : ∀ (cs : CEs) {N : List Str} {sc : Scope} {X : Cx} {W : WX} {es : List PySem.Expr}, CtxQ N sc X → L2N.Takes X W → chkEs N sc cs es = true → cs.qt = true → EsOk X W cs es
  | .nil, N, sc, X, W, es, C, tk, h, g => by
    unfold chkEs at h
    split at h
    · exact ⟨fun _ => s_anil, fun _ n => (n rfl).elim, fun _ n => (n rfl).elim, fun _ n => (n rfl).elim, fun _ n => (n rfl).elim⟩
    · cases h
  | .cons c cs, N, sc, X, W, es, C, tk, h, g => by
    unfold chkEs at h
    split at h
    · rename_i l ls
      obtain ⟨h1, h2⟩ := and2 h
      have q := snd_Q c C tk h1 (and2 g).1
      have qs := snd_Qs cs C tk h2 (and2 g).2
      refine ⟨fun hs => ?_, fun pos _ => ?_, fun pos _ => ?_, fun pos _ t => ?_, fun pos _ t => ?_⟩
      · obtain ⟨s1, s2⟩ := and2 (show (!isStar l && ls.all fun e => !isStar e) = true by simpa using hs)
        exact s_acons q.pe (qs.pa s2) (by simpa using s1)
      · cases ls with
        | nil =>
          cases cs with
          | nil => exact s_and1 q.pe
          | cons c2 cs => simp [chkEs] at h2
        | cons l2 ls =>
          cases cs with
          | nil => simp [chkEs] at h2
          | cons c2 cs => exact s_andc q.pe (qs.an pos (by simp))
      · cases ls with
        | nil =>
          cases cs with
          | nil => exact s_or1 q.pe
          | cons c2 cs => simp [chkEs] at h2
        | cons l2 ls =>
          cases cs with
          | nil => simp [chkEs] at h2
          | cons c2 cs => exact s_orc q.pe (qs.or pos (by simp))
      · obtain ⟨t1, t2⟩ := and2 (show (c.tst && cs.tst) = true from t)
        cases ls with
        | nil =>
          cases cs with
          | nil => exact t_and1 (q.pt t1)
          | cons c2 cs => simp [chkEs] at h2
        | cons l2 ls =>
          cases cs with
          | nil => simp [chkEs] at h2
          | cons c2 cs => exact t_andc (q.pt t1) (qs.tan pos (by simp) t2)
      · obtain ⟨t1, t2⟩ := and2 (show (c.tst && cs.tst) = true from t)
        cases ls with
        | nil =>
          cases cs with
          | nil => exact t_or1 (q.pt t1)
          | cons c2 cs => simp [chkEs] at h2
        | cons l2 ls =>
          cases cs with
          | nil => simp [chkEs] at h2
          | cons c2 cs => exact t_orc (q.pt t1) (qs.tor pos (by simp) t2)
    · cases h
end
/-! ### statements -/
mutual
def CS.qt : CS → Bool
  | .ifs c a b => c.qt && (a.qt && b.qt)
  | .ret e => e.qt
  | .fail => true
  | _ => false
def CSs.qt : CSs → Bool
  | .nil => true
  | .cons s ss => s.qt && ss.qt
  | _ => false
end
mutual
def chkQ (N : List Str) (sc : Scope) : CS → PySem.Stmt → Bool
  | .ifs c a b, st => (match st with
    | .If ec as bs _ => (c.tst && (chkE N sc c ec && c.qt)) && (chkQs N sc a as && chkQs N sc b bs)
    | _ => false)
  | .ret e, st => (match st with
    | .Return (some ee) _ => chkE N sc e ee && e.qt
    | _ => false)
  | .fail, _ => true
  | _, _ => false
def chkQs (N : List Str) (sc : Scope) : CSs → List PySem.Stmt → Bool
  | .nil, sts => (match sts with | [] => true | _ => false)
  | .cons s ss, sts => (match sts with | st :: sts => chkQ N sc s st && chkQs N sc ss sts | _ => false)
  | _, _ => false
end
mutual
theorem snd_QS : ∀ (s : CS) {N : List Str} {sc : Scope} {X : Cx} {W : WX} {st : PySem.Stmt}, CtxQ N sc X → L2N.Takes X W → chkQ N sc s st = true → PS X st (tS X W (ex s))
  | .ifs c a b, N, sc, X, W, st, C, tk, h => by
    unfold chkQ at h
    split at h
    · obtain ⟨h1, h2⟩ := and2 h
      obtain ⟨h3, h4⟩ := and2 h1
      obtain ⟨h5, h6⟩ := and2 h4
      obtain ⟨h7, h8⟩ := and2 h2
      exact s_ifs ((snd_Q c C tk h5 h6).pt h3) (snd_QSs a C tk h7) (snd_QSs b C tk h8)
    · cases h
  | .ret e, N, sc, X, W, st, C, tk, h => by
    unfold chkQ at h
    split at h
    · obtain ⟨h1, h2⟩ := and2 h
      exact s_ret (snd_Q e C tk h1 h2).pe
    · cases h
  | .fail, N, sc, X, W, st, C, tk, h => ⟨fun pins s σ H D I hw => by
    obtain ⟨hid, ρ, env, S, r, re, p⟩ := hw
    exact (show False from p).elim⟩
  | .asg _ _, N, sc, X, W, st, C, tk, h => by cases h
  | .par _ _ _ _, N, sc, X, W, st, C, tk, h => by cases h
  | .put _ _ _, N, sc, X, W, st, C, tk, h => by cases h
  | .putp _ _ _ _ _ _, N, sc, X, W, st, C, tk, h => by cases h
  | .aug _ _, N, sc, X, W, st, C, tk, h => by cases h
  | .drop _, N, sc, X, W, st, C, tk, h => by cases h
  | .app _ _, N, sc, X, W, st, C, tk, h => by cases h
  | .rem _ _, N, sc, X, W, st, C, tk, h => by cases h
  | .for_ _ _ _, N, sc, X, W, st, C, tk, h => by cases h
  | .while_ _ _ _, N, sc, X, W, st, C, tk, h => by cases h
  | .retN, N, sc, X, W, st, C, tk, h => by cases h
  | .pass, N, sc, X, W, st, C, tk, h => by cases h
  | .rais _ _ _, N, sc, X, W, st, C, tk, h => by cases h
  | .try_ _ _ _ _ _ _ _, N, sc, X, W, st, C, tk, h => by cases h
theorem snd_QSs : ∀ (ss : CSs) {N : List Str} {sc : Scope} {X : Cx} {W : WX} {sts : List PySem.Stmt}, CtxQ N sc X → L2N.Takes X W → chkQs N sc ss sts = true → PSs X sts (tS X W (exs ss))
  | .nil, N, sc, X, W, sts, C, tk, h => by
    unfold chkQs at h
    split at h
    · exact b_nil
    · cases h
  | .cons s ss, N, sc, X, W, sts, C, tk, h => by
    unfold chkQs at h
    split at h
    · obtain ⟨h1, h2⟩ := and2 h
      exact b_cons (snd_QS s C tk h1) (snd_QSs ss C tk h2)
    · cases h
  | .frz _ _, N, sc, X, W, sts, C, tk, h => by cases h
end
/-! ### a def that is called where an exception is handled -/
structure CalH (P : Program) (w : World) (K : PySem.W.Frag) (mg : Str → Option Value) (base : Heap) (lv : Nat) (x : Str) (g : Fn) : Prop where
  ex : ∃ (k : Nat) (f : Addr) (fd : FuncData) (ps : List Str), L2H.FnH P w K mg base (L2N.CX P w) k f fd ps (spOf K mg g) ∧ mg x = some (.ref f) ∧ PySem.W.keepIn K (.ref f) = true ∧ Binds K fd ps [] ∧ k ≤ lv
open PyProof.Rows in
theorem fn_okH {P : Program} {w : World} {K : PySem.W.Frag} {mg : Str → Option Value} {base : Heap} {x qual : Str} {st : PySem.Stmt} {f : Addr} {fd : FuncData} {N ps : List Str} {lv : Nat} {b : CSs} {kws : List (Str × V)} {dvs : List V} (F : FunD K x qual (defArgs st) (defBody st) (defScope st) dvs kws f fd) (S : FnScope N ps (defScope st)) (hb : ∀ x, x ∈ biNames → mg x = none)
    (hc : chkQs N (defScope st) b (defBody st) = true) : L2H.FnH P w K mg base (L2N.CX P w) (lv + 1) f fd ps (spOf K mg (fnOf ps.length N.length b)) := by
  have hlen : ∀ vs H Q E, spOf K mg (fnOf ps.length N.length b) vs H Q E → vs.length = ps.length := fun vs H Q E ⟨hid, ρ, S0, ds, r, rl, p⟩ => by
    unfold fnOf at p
    split at p
    · rename_i h; rw [rl.length, h]
    · exact p.elim
  have hN : ps.length ≤ N.length := by have := congrArg List.length S.pre; rw [List.length_take] at this; omega
  obtain ⟨oc, od, dV, kV, doc, pm, an, cdv, ct, osl, rfl, lk, hcd, _, _⟩ := F.ex
  refine L2H.fn_ofH lk hcd S hlen fun A outer s H vs Q E pr hot hr hsp => ⟨_, snd_QSs (W := fun cls d _ H => E cls d H) b ⟨rfl, rfl, by have := hr.un; show (A.deeper (envOfC qual (defScope st) s.heap.objs.size f cdv)).units + 65 < _; omega, hb⟩ (L2N.takes_of rfl rfl rfl rfl) hc, ?_⟩
  obtain ⟨hid, ρ, S0, ds, r, rl, p⟩ := hsp
  refine ⟨hid, ρ, ds.map some ++ List.replicate (N.length - ps.length) none, S0, r, ?_, ?_⟩
  · unfold fnOf at p
    split at p
    · rename_i h
      rw [← h]
      exact startE rl (by omega)
    · exact p.elim
  · unfold fnOf at p
    split at p
    · rename_i h
      rw [← r.len] at p
      split at p
      · rename_i env' S' q
        rw [q]
        exact fun ρ' H' σ' e' r' re' => expo_ok (v := .non) (by rw [← r'.len]; exact e'.len) p e' r' .non
      · rename_i d S' q
        rw [q]
        exact fun ρ' H' v e' r' rv => expo_ok (by rw [← r'.len]; exact e'.len) p e' r' rv
      · rename_i c fs env' S' q
        rw [q]
        intro ρ' H' cls d σ' e' r' re' x
        split at p
        · rename_i hl
          have hl : ∀ kv ∈ fs, kv.2.lt ρ.length = true := by simpa using hl
          have hn : ρ.length ≤ S'.length := by rw [← r'.len]; exact e'.len
          have s := sub_take r' hn
          refine p _ _ cls d (e'.sub s) (r'.take hn) ?_
          obtain ⟨C, h1, h2, h3⟩ := x
          refine ⟨C, h1, h2, ?_⟩
          rcases h3 with h3 | ⟨dd, gs, q1, q2, q3⟩
          · exact .inl h3
          · exact .inr ⟨dd, gs, q1, q2, RepKV.sub s hl q3⟩
        · exact p.elim
      · exact p.elim
    · exact p.elim
end MI
/-! XI1: raising an exception of a class of the program whose __init__ tells its base a text and keeps its arguments -/
namespace MI.XC
open PySem PySem.W PySem.Calls PyProof.Rows PySem.HandSPX
/-- a text or a whole number, not long -/
def shortV : Value → Bool
  | .str z _ => decide (z.length ≤ 1000)
  | .int i _ => decide (i.natAbs.log2 < 1920)
  | _ => false
/-- the parts of an f-string: texts and names -/
def fsB (ps : List Str) : List PySem.Expr → Bool
  | [] => true
  | e :: es => (match e with
    | .Constant (.str z) _ _ => decide (z.length ≤ 1000)
    | .FormattedValue (.Name x _) (-1) none _ => ps.contains x
    | _ => false) && fsB ps es
section
variable {prog : Program} {w : World} {A : Around} {E : Value → Shared → Prop} {env : Env} {ps : List Str} {m : Str → Option Value}
theorem short_text {v : Value} (h : shortV v = true) : ∃ y : Str, y.length ≤ 2000 ∧ ∀ (s : Shared) (Q : Value → Shared → Prop), (∀ t k, Q (.str y t) { s with toks := k }) → wpAny (model prog w) A (formatField v Str.empty) Q E s := by
  cases v with
  | str z t =>
    have hz : z.length ≤ 1000 := of_decide_eq_true h
    exact ⟨z, by omega, fun s Q q => wpAny_formatField_str (q t s.toks) (q _ _) (by rw [sizeLine_eq]; omega)⟩
  | int i t =>
    have hi : i.natAbs.log2 < 1920 := of_decide_eq_true h
    refine ⟨Str.ofString (toString i), ?_, fun s Q q => wpAny_formatField_int hi (q _ _)⟩
    have e := int_text_length_le (k := 1920) (by decide) hi
    rw [PySem.ofString_length]; omega
  | _ => cases h
theorem joins_ok (hk : env.scope.kind = .function) (hl : ∀ x ∈ ps, env.kindOf x = some .local ∧ (x == ("__debug__" : Str)) = false ∧ ∃ v, m x = some v ∧ shortV v = true) : ∀ (es : List PySem.Expr) (acc : Str) (s : Shared) (Q : Str → Shared → Prop), fsB ps es = true → acc.length + 2000 * es.length ≤ sizeLine → s.heap.Ns env.locals m →
    (∀ out k, out.length ≤ sizeLine → Q out { s with toks := k }) → Joins (model prog w) A E (evalEach es env) acc Q s
  | [], acc, s, Q, _, hz, _, q => by
    have e0 : evalEach [] env = [] := by first | rfl | simp [evalEach]
    rw [e0]
    exact q acc s.toks (by simpa using hz)
  | e :: es, acc, s, Q, hf, hz, hn, q => by
    have e0 : evalEach (e :: es) env = eval e env :: evalEach es env := by first | rfl | simp [evalEach]
    rw [e0]
    rw [List.length_cons] at hz
    unfold fsB at hf
    rw [Bool.and_eq_true] at hf
    obtain ⟨h1, h2⟩ := hf
    have go : ∀ (y : Str), y.length ≤ 2000 → (acc ++ y).length ≤ sizeLine ∧ ∀ k, Joins (model prog w) A E (evalEach es env) (acc ++ y) Q { s with toks := k } := fun y hy => by
      have hl2 : (acc ++ y).length = acc.length + y.length := strLen_append acc y
      refine ⟨by omega, fun k => ?_⟩
      exact joins_ok hk hl es (acc ++ y) { s with toks := k } Q h2 (by rw [hl2]; omega) hn fun out k' ho => q out k' ho
    show wpAny _ _ _ _ _ _
    split at h1
    · rename_i z k p
      have hz2 : z.length ≤ 1000 := of_decide_eq_true h1
      obtain ⟨g1, g2⟩ := go z (by omega)
      exact wpAny_Constant_str ⟨z, _, rfl, g1, g2 _⟩
    · rename_i x p p2
      have hx : x ∈ ps := by simpa using h1
      obtain ⟨l1, l2, v, hv, sv⟩ := hl x hx
      obtain ⟨y, hy, fmt⟩ := short_text (prog := prog) (w := w) (A := A) (E := E) sv
      obtain ⟨g1, g2⟩ := go y hy
      exact wpAny_FormattedValue_plain (wpAny_Name (wpAny_loadName_local hk l1 hn hv (fmt s _ fun t k => ⟨y, t, rfl, g1, g2 k⟩)) l2)
    · cases h1
end
end MI.XC
namespace MI.XC
open PySem PySem.W PySem.Calls PyProof.Rows PySem.HandSPX
/-- what the written part says of a class at C and of its __init__ at fI -/
structure CT (prog : Program) (K : Frag) (C fI cc cda : Addr) (qual : Str) (params : Arguments) (body : List PySem.Stmt) (scope : Scope) : Prop where
  cls : ∃ nm q N bs bm sn sub ab col dd k0 k1 k2 k3 k5, K.lookup C = some (excClassObj nm q C N bs bm true sn sub ab col dd k0 k1 k2 k3 k5 "ValueError.__new__") ∧ refsVE bm = true
  sa : findIn K (.ref C) "__setattr__" = some (some (.builtin "object.__setattr__"))
  iC : findIn K (.ref C) "__init__" = some (some (.ref fI))
  tI : typeIn K (.ref fI) = some (.type "function")
  kC : keepIn K (.ref C) = true
  exC : subIn K (.ref C) (.type "BaseException") = some true
  veC : subIn K (.ref C) (.type "ValueError") = some true
  tyC : typeIn K (.ref C) = some (.type "type")
  selfC : mroIn K C (.ref C) = some true
  sup : ks_superIn K C C "__init__" = some (some (.builtin "ValueError.__init__"))
  opq : nsIn K cStatics "thirdparty.any" = some none
  fn : ∃ (oc : Value) (od : Option Addr) (dV kV doc pm : Value) (an : Option Addr) (ct : Value) (osl : Array (Option Value)), K.lookup fI = some ⟨oc, od, .func (ksFn "__init__" qual params body scope dV kV doc pm an (.ref cda) ct cc), osl⟩ ∧ codeIn K (.ref cda) qual = true ∧ dV = .none
  code : ∃ (ccl : Value) (cdd : Option Addr) (vs : Array Value) (ccs : Array (Option Value)) (file : Str) (tf : Tok), K.lookup cda = some ⟨ccl, cdd, .fields vs, ccs⟩ ∧ vs[2]? = some (.str file tf) ∧ ((prog.main.file : Str) == file) = true
  cell : ∃ (cl : Value) (cld : Option Addr) (csl : Array (Option Value)), K.lookup cc = some ⟨cl, cld, .cell (some (.ref C)), csl⟩
/-- the scope and the first parameter of such an __init__ -/
structure SH (prog : Program) (params : Arguments) (scope : Scope) : Prop where
  su : scope.names.lookup ("super" : Str) = some .globalImplicit
  cl : scope.names.lookup ("__class__" : Str) = some .free
  se : scope.names.lookup ("self" : Str) = some .local
  fu : scope.kind = .function
  ar : ∃ ar : Arg, (params.posonlyargs ++ params.args).head? = some ar ∧ ar.arg = ("self" : Str)
  top : (prog.main.scope.names.lookup ("super" : Str)).isSome = false
section
variable {prog : Program} {w : World} {A : Around} {E : Value → Shared → Prop} {K : Frag} {C fI cc cda L x t0 : Addr} {qual : Str} {params : Arguments} {body : List PySem.Stmt} {scope : Scope} {mg mb m : Str → Option Value} {s : Shared}
theorem call_mw {u : Addr} {rest : List Value} {Q : Value → Shared → Prop} (T : CT prog K C fI cc cda qual params body scope) (X : K.In s.heap) (hu : s.heap.get? u = some (kxs_mw "ValueError.__init__" x)) (hx : s.heap.get? x = some (excO C t0)) (hrest : rest.length ≤ sizeLine)
    (hq : ∀ h' t1, (∀ b o, b ≠ x → s.heap.get? b = some o → h'.get? b = some o) → h'.get? x = some (excO C t1) → Q .none { s with heap := h' }) : wpAny (model prog w) A (call (.ref u) rest) Q E s := by
  obtain ⟨nm, q, N, bs, bm, sn, sub, ab, col, dd, k0, k1, k2, k3, k5, hC, hbm⟩ := T.cls
  have hC := X _ _ hC
  obtain ⟨hh, g, d, tk, os⟩ := s
  refine wpAny_call (codeAny_of_tree ?_)
  show wpAny _ A.in1 (callAny (.ref u) ⟨rest, []⟩) _ _ _
  simp only [callAny]
  refine wpAny_bind (wpAny_load hu ?_)
  simp only [kxs_mw, show (Value.type "method-wrapper" == Value.type "method" || Value.type "method-wrapper" == Value.type "builtin_function_or_method" || Value.type "method-wrapper" == Value.type "method-wrapper") = true by decide, if_true]
  refine KFB.if_so (by decide) ?_
  refine wpAny_bind (check_bound_init F.excBase_ValueError.toExcCallFacts hC hx rfl ?_)
  refine wpAny_bind (wpAny_pure (wpAny_pure ?_))
  refine ⟨plainId_quiet F.excBase_ValueError.init.plain _, codeAny_builtin F.excBase_ValueError.initEntry ?_⟩
  exact exc_init_tree (cls := .ref C) (t0 := t0) (dv := none) (c2 := .none) (c3 := .none) (b4 := .bool false) hx hrest fun h' k e' t' => hq h' _ k e'
theorem super_stmt {js : PySem.Expr} {p0 p1 p2 p3 p4 : Pos} {pl : Sem Bool} {Q : Flow → Shared → Prop} (T : CT prog K C fI cc cda qual params body scope) (S : SH prog params scope) (X : K.In s.heap) (hg : s.heap.Ns mainGlobals mg) (hsup : mg "super" = none) (hb : s.heap.Ns builtinsNs mb) (hmb : mb "super" = some (.type "super"))
    (hn : s.heap.Ns L m) (hself : m "self" = some (.ref x)) (hx : s.heap.get? x = some (excO C t0)) (hnx : K.lookup x = none) (hLx : L ≠ x)
    (hjs : ∀ (s' : Shared) (Q : Value → Shared → Prop), s'.heap.Ns L m → (∀ z t k, z.length ≤ sizeLine → Q (.str z t) { s' with toks := k }) → wpAny (model prog w) A (eval js (ksEnv qual scope L fI (.ref cda) cc)) Q E s')
    (hstar : starEach [js] (ksEnv qual scope L fI (.ref cda) cc) = (false, eval js (ksEnv qual scope L fI (.ref cda) cc)) :: starEach [] (ksEnv qual scope L fI (.ref cda) cc))
    (hev : eval (.Call (.Attribute (.Call (.Name "super" p0) [] [] p1) "__init__" p2) [js] [] p3) (ksEnv qual scope L fI (.ref cda) cc) = (do
      let ov ← attributeBase (.Call (.Name "super" p0) [] [] p1) "__init__" (ksEnv qual scope L fI (.ref cda) cc) (eval (.Call (.Name "super" p0) [] [] p1) (ksEnv qual scope L fI (.ref cda) cc))
      standAt p2.atName
      let (f, first) ← holding [ov] (getMethod ov "__init__" pl)
      callWith p3 f first (backTo p3 (starEach [js] (ksEnv qual scope L fI (.ref cda) cc))) []))
    (hq : ∀ h' tk t1, (∀ b o, b ≠ x → s.heap.get? b = some o → h'.get? b = some o) → h'.get? x = some (excO C t1) → Q .next { s with heap := h', toks := tk }) :
    _root_.PySem.wpAt (model prog w) A (.func body (ksEnv qual scope L fI (.ref cda) cc)) (exec (.Expr (.Call (.Attribute (.Call (.Name "super" p0) [] [] p1) "__init__" p2) [js] [] p3) p4) (ksEnv qual scope L fI (.ref cda) cc)) Q E s := by
  obtain ⟨nm, q, N, bs, bm, sn, sub, ab, col, dd, k0, k1, k2, k3, k5, hC, hbm⟩ := T.cls
  obtain ⟨oc, od, dV, kV, doc, pm, an, ct, osl, hf, hcd, hdv⟩ := T.fn
  obtain ⟨ccl, cdd, vs, ccs, file, tf, hcode, hvs, hfile⟩ := T.code
  obtain ⟨cl, cld, csl, hcell⟩ := T.cell
  obtain ⟨ar, har, hsa⟩ := S.ar
  have hcl : clsIn K C = some { name := nm, bases := bs, mro := .ref C :: bm, ns := N, qualname := q, hasDict := true, slotNames := sn, subclasses := sub, abstract := ab, collection := col, hasDel := false } := by unfold clsIn; rw [hC] <;> rfl
  have I : InstAt s.heap x (excO C t0) C none := ⟨hx, rfl, rfl, trivial⟩
  refine ks_wpAt_Expr_any ?_ (by show (scope.kind == .module && _) = false; rw [S.fu]; rfl)
  refine ks_wpAt_MethodCall ?_ hev
  obtain ⟨hh, g, d, t, os⟩ := s
  refine ks_wpAt_super_base (env := ksEnv qual scope L fI (.ref cda) cc) S.su S.cl (by decide) rfl (X _ _ hf) rfl har rfl (X _ _ hcode) rfl hvs hfile S.top ?_
  refine ks_loadName_global S.fu S.su (loadGlobal_builtin (env := ksEnv qual scope L fI (.ref cda) cc) hg hsup hb hmb ⟨rfl, ?_⟩)
  refine wpAny_loadName_free S.fu S.cl rfl ⟨_, X _ _ hcell, rfl⟩ ?_
  rw [hsa]
  refine wpAny_loadName_local S.fu S.se hn hself ?_
  refine ks_wpAny_isType_cls (X _ _ hC) rfl ⟨rfl, ?_⟩
  refine ks_wpAny_call_super (X _ _ hC) rfl hx rfl (fun c e => by cases e) (looks_mroIn X T.selfC) (fun h1 e1 u1 => ?_)
  have X1 : K.In h1 := X.keeps u1
  have hx1 := u1 _ _ hx
  have I1 : InstAt h1 x (excO C t0) C none := ⟨hx1, rfl, rfl, trivial⟩
  have hm : (clsIn K C).bind (fun cd => alongIn K "__init__" ((cd.mro.dropWhile (· != .ref C)).drop 1)) = some (some (.builtin "ValueError.__init__")) := T.sup
  rw [hcl] at hm
  refine kxs_getMethod kxs_ValueError e1 (looks_opaque X1 T.opq) (l₀ := .ref C :: bm) ?_ rfl X1 hm (I1.type.andThen (looks_subIn X1 T.veC)) (ks_ne X1 I1 hcl) (by decide) ?_
  · exact fun A Q E s k q => wpAny_bind ((looks_clsIn X1 hcl) A _ E s k (wpAny_pure q))
  have u2 : ∀ b o, h1.get? b = some o → (h1.push (kxs_mw "ValueError.__init__" x)).get? b = some o := fun b o e => Heap.get?_push_of_some _ e
  have hn2 : (h1.push (kxs_mw "ValueError.__init__" x)).Ns L m := hn.at fun o e => u2 _ _ (u1 _ _ e)
  rw [hstar]
  refine kxs_callWith (i := "ValueError.__init__") (x := x) (by rfl) (evalArgs_plain (spliced_cons (hjs _ _ hn2 fun z t' k hz => ?_)))
  refine args_nil ⟨Heap.get?_push_at rfl rfl, ?_⟩
  refine call_mw T (X1.keeps u2) (Heap.get?_push_at rfl rfl) (u2 _ _ hx1) (by rw [sizeLine_eq]; show 1 ≤ _; decide) fun h' t1 k' hx' => ?_
  exact hq h' _ t1 (fun b o hb e => k' b o hb (u2 b o (u1 b o e))) hx'
end
end MI.XC
namespace MI.XC
open PySem PySem.W PySem.Calls PyProof.Rows PySem.HandSPX
structure Asg where
  f : Str
  q1 : Pos
  q2 : Pos
  q3 : Pos
  q4 : Pos
def Asg.st (a : Asg) : PySem.Stmt := .Assign [.Attribute (.Name "self" a.q1) a.f a.q2] (.Name a.f a.q3) a.q4
def putA (m0 : Str → Option Value) : List (Str × Value) → Str → Option Value
  | [] => m0
  | (f, v) :: l => putA (fun y => if y = f then some v else m0 y) l
/-- the fields can be stored -/
structure FO (K : Frag) (C : Addr) (scope : Scope) (m : Str → Option Value) (f : Str) (v : Value) : Prop where
  no : findIn K (.ref C) f = some none
  lo : scope.names.lookup f = some .local
  db : (f == ("__debug__" : Str)) = false
  va : m f = some v
section
variable {prog : Program} {w : World} {A : Around} {E : Value → Shared → Prop} {K : Frag} {C fI cc cda L x t0 : Addr} {qual : Str} {params : Arguments} {body : List PySem.Stmt} {scope : Scope} {mg mb m : Str → Option Value} {s : Shared}
theorem ld_l {y : Str} {v : Value} {pos : Pos} {Q : Value → Shared → Prop} (fu : scope.kind = .function) (lo : scope.names.lookup y = some .local) (db : (y == ("__debug__" : Str)) = false) (hn : s.heap.Ns L m) (hv : m y = some v) (h : Q v s) : wpAny (model prog w) A (eval (.Name y pos) (ksEnv qual scope L fI (.ref cda) cc)) Q E s :=
  wpAny_Name (wpAny_loadName_local (env := ksEnv qual scope L fI (.ref cda) cc) fu lo hn hv h) db
theorem within_put {f : Str} {v : Value} {m0 : Str → Option Value} {l : List Str} (h : Within m0 l) : Within (fun y => if y = f then some v else m0 y) (f :: l) := Within.cons f v h
theorem stores (T : CT prog K C fI cc cda qual params body scope) (S : SH prog params scope) (hself : m "self" = some (.ref x)) {t1 dx : Addr} (hdL : dx ≠ L) (hdx : dx ≠ x) : ∀ (as : List Asg) (vs : List Value) (m0 : Str → Option Value) (ns : List Str) (s : Shared) (Q : Flow → Shared → Prop), as.length = vs.length → (∀ p ∈ as.zip vs, FO K C scope m p.1.f p.2) → K.In s.heap → K.lookup dx = none → s.heap.Ns L m →
    s.heap.get? x = some { cls := .ref C, dict := some dx, data := .fields #[.ref t1, .none, .none, .none, .bool false, .none] } → s.heap.Ns1 dx m0 → Within m0 ns → ns.length + as.length ≤ 1000 →
    (∀ h' tk, (∀ b o, b ≠ dx → s.heap.get? b = some o → h'.get? b = some o) → h'.Ns1 dx (putA m0 ((as.map Asg.f).zip vs)) → Q .next { s with heap := h', toks := tk }) →
    wpAny (model prog w) A (execs (as.map Asg.st) (ksEnv qual scope L fI (.ref cda) cc)) Q E s
  | [], vs, m0, ns, s, Q, hl, _, _, _, _, _, h1, _, _, hq => wpAny_execs_nil (hq s.heap s.toks (fun b o _ e => e) (by rw [List.map_nil, List.zip_nil_left]; exact h1))
  | a :: as, [], m0, ns, s, Q, hl, _, _, _, _, _, _, _, _, _ => by simp at hl
  | a :: as, v :: vs, m0, ns, s, Q, hl, hf, X, hnd, hn, hx, h1, hw, hz, hq => by
    have fo := hf (a, v) (by simp)
    have fo' : FO K C scope m a.f v := fo
    obtain ⟨nm, q, N, bs, bm, sn, sub, ab, col, dd, k0, k1, k2, k3, k5, hC, hbm⟩ := T.cls
    have hcl : clsIn K C = some { name := nm, bases := bs, mro := .ref C :: bm, ns := N, qualname := q, hasDict := true, slotNames := sn, subclasses := sub, abstract := ab, collection := col, hasDel := false } := by unfold clsIn; rw [hC] <;> rfl
    obtain ⟨oD, esD, epD, hoD, hdD, hcD⟩ := h1.count hw
    rw [List.map_cons]
    refine wpAny_execs_cons (plainObj_wpAny_Assign_Attribute ?_)
    refine ld_l (v := v) S.fu fo'.lo fo'.db hn fo'.va (ld_l (v := .ref x) S.fu S.se (by decide) hn hself ?_)
    obtain ⟨hp, g, d, t, os⟩ := s
    refine set_plain X (ox := { cls := .ref C, dict := some dx, data := .fields #[.ref t1, .none, .none, .none, .bool false, .none] }) (od := some oD) ⟨hx, rfl, rfl, hoD⟩ T.sa ?_
    refine PySem.OEX.osa_old X hx h1 hw (by simp at hz; omega) hcl (show refsVE (.ref C :: bm) = true from hbm) rfl fo'.no (fun h' tk' k hn' => ?_)
    have X' : K.In h' := fun b o e => k b o (fun z => by rw [z] at e; rw [e] at hnd; cases hnd) (X b o e)
    refine stores T S hself hdL hdx as vs _ (a.f :: ns) ⟨h', g, d, tk', os⟩ Q (by simpa using hl) (fun p hp => hf p (by rw [List.zip_cons_cons]; exact List.mem_cons_of_mem _ hp)) X' hnd (hn.at fun o e => k _ o (Ne.symm hdL) e) (k _ _ (Ne.symm hdx) hx) hn' (within_put hw) (by simp at hz ⊢; omega) fun h'' tk'' k'' hn'' => ?_
    exact hq h'' tk'' (fun b o hb e => k'' b o hb (k b o hb e)) hn''
end
/-- what __init__ leaves of a fresh exception at x -/
structure InitEnd (h h' : Heap) (x C dx t1 : Addr) (fvs : List (Str × Value)) : Prop where
  keep : ∀ b o, b ≠ x → h.get? b = some o → h'.get? b = some o
  obj : h'.get? x = some { cls := .ref C, dict := some dx, data := .fields #[.ref t1, .none, .none, .none, .bool false, .none] }
  dbig : h.objs.size ≤ dx
  dne : dx ≠ x
  ns : h'.Ns1 dx (putA (fun _ => none) fvs)
section
variable {prog : Program} {w : World} {A : Around} {K : Frag} {C fI cc cda x t0 : Addr} {qual : Str} {params : Arguments} {scope : Scope} {mg mb : Str → Option Value} {s : Shared} {R : Result → Shared → Prop}
/-- the call of __init__ -/
theorem init_ok {js : PySem.Expr} {p0 p1 p2 p3 p4 : Pos} {a : Asg} {as : List Asg} {v : Value} {vs : List Value} {binds : List (Str × Value)}
    (T : CT prog K C fI cc cda qual params (.Expr (.Call (.Attribute (.Call (.Name "super" p0) [] [] p1) "__init__" p2) [js] [] p3) p4 :: (a :: as).map Asg.st) scope) (S : SH prog params scope)
    (X : K.In s.heap) (hlim : s.heap.NoLimit) (hg : s.heap.Ns mainGlobals mg) (hsup : mg "super" = none) (hb : s.heap.Ns builtinsNs mb) (hmb : mb "super" = some (.type "super"))
    (hx : s.heap.get? x = some (excO C t0)) (hnx : ∀ b, s.heap.objs.size ≤ b + 1 → K.lookup b = none) (hbig : s.heap.objs.size ≤ x + 1) (hroom : A.depth < recursionLimit)
    (hbind : ∀ (s' : Shared) (oc : Value) (dV kV doc pm : Value) (an : Option Addr) (ct : Value), dV = .none → BindsTo s' (ksFn "__init__" qual params (.Expr (.Call (.Attribute (.Call (.Name "super" p0) [] [] p1) "__init__" p2) [js] [] p3) p4 :: (a :: as).map Asg.st) scope dV kV doc pm an (.ref cda) ct cc) ⟨.ref x :: v :: vs, []⟩ binds)
    (hcell : ∀ y ∈ scope.names, y.2 ≠ .cell) (hloc : ∀ y ∈ binds, scope.names.lookup y.1 = some .local) (hco : scope.isCoroutine = false) (hgen : scope.isGenerator = false)
    (hself : binds.reverse.lookup ("self" : Str) = some (.ref x)) (hlen : as.length = vs.length) (hf : ∀ p ∈ (a :: as).zip (v :: vs), FO K C scope (fun y => binds.reverse.lookup y) p.1.f p.2) (hz : as.length ≤ 100)
    (hjs : ∀ (A : Around) (E : Value → Shared → Prop) (L : Addr) (s' : Shared) (Q : Value → Shared → Prop), s'.heap.Ns L (fun y => binds.reverse.lookup y) → (∀ z t k, z.length ≤ sizeLine → Q (.str z t) { s' with toks := k }) → wpAny (model prog w) A (eval js (ksEnv qual scope L fI (.ref cda) cc)) Q E s')
    (hstar : ∀ L, starEach [js] (ksEnv qual scope L fI (.ref cda) cc) = (false, eval js (ksEnv qual scope L fI (.ref cda) cc)) :: starEach [] (ksEnv qual scope L fI (.ref cda) cc))
    (hev : ∃ pl : Sem Bool, ∀ L, eval (.Call (.Attribute (.Call (.Name "super" p0) [] [] p1) "__init__" p2) [js] [] p3) (ksEnv qual scope L fI (.ref cda) cc) = (do
      let ov ← attributeBase (.Call (.Name "super" p0) [] [] p1) "__init__" (ksEnv qual scope L fI (.ref cda) cc) (eval (.Call (.Name "super" p0) [] [] p1) (ksEnv qual scope L fI (.ref cda) cc))
      standAt p2.atName
      let (f, first) ← holding [ov] (getMethod ov "__init__" pl)
      callWith p3 f first (backTo p3 (starEach [js] (ksEnv qual scope L fI (.ref cda) cc))) []))
    (hq : ∀ h' tk dx t1, InitEnd s.heap h' x C dx t1 (((a :: as).map Asg.f).zip (v :: vs)) → R (.ok (.ret .none)) { s with heap := h', toks := tk }) :
    codeAny (model prog w) A (.call (.ref fI) ⟨.ref x :: v :: vs, []⟩) R s := by
  obtain ⟨nm, q, N, bs, bm, sn, sub, ab, col, dd, k0, k1, k2, k3, k5, hC, hbm⟩ := T.cls
  obtain ⟨oc, od, dV, kV, doc, pm, an, ct, osl, hfn, hcd, hdv⟩ := T.fn
  obtain ⟨pl, hev⟩ := hev
  have hcl : clsIn K C = some { name := nm, bases := bs, mro := .ref C :: bm, ns := N, qualname := q, hasDict := true, slotNames := sn, subclasses := sub, abstract := ab, collection := col, hasDel := false } := by unfold clsIn; rw [hC] <;> rfl
  have hxs := Heap.lt_size hx
  have fo : FO K C scope (fun y => binds.reverse.lookup y) a.f v := hf (a, v) (by rw [List.zip_cons_cons]; exact List.mem_cons_self)
  refine ks_codeAny_call_defAt (binds := binds) hroom (X _ _ hfn) rfl hlim (codeRec_of X hcd) rfl (hbind s oc dV kV doc pm an ct hdv) hcell hloc (fun h₁ hns hk₁ => ?_) hco hgen S.fu
  have X1 : K.In h₁ := X.keeps hk₁
  have hx1 := hk₁ _ _ hx
  have hLx : s.heap.objs.size ≠ x := Nat.ne_of_gt hxs
  have hL1 : s.heap.objs.size < h₁.objs.size := by
    obtain ⟨o, es, ep, e, _⟩ := hns
    exact Heap.lt_size e
  refine ks_wpAt_execs_cons ?_
  refine super_stmt (s := { s with heap := h₁, toks := s.toks + binds.length }) T S X1 (hg.at fun o e => hk₁ _ _ e) hsup (hb.at fun o e => hk₁ _ _ e) hmb hns hself hx1 (hnx x hbig) hLx (fun s' Q => hjs _ _ _ s' Q) (hstar _) (hev _) fun h₂ tk t1 k₂ hx2 => ?_
  refine wpAt_of_wpAny ?_
  have X2 : K.In h₂ := fun b o e => k₂ b o (fun z => by rw [z, hnx x hbig] at e; cases e) (X1 b o e)
  have hns2 : h₂.Ns s.heap.objs.size (fun y => binds.reverse.lookup y) := hns.at fun o e => k₂ _ o hLx e
  rw [List.map_cons]
  refine wpAny_execs_cons (plainObj_wpAny_Assign_Attribute ?_)
  refine ld_l (s := { s with heap := h₂, toks := tk }) (v := v) S.fu fo.lo fo.db hns2 fo.va (ld_l (v := .ref x) S.fu S.se (by decide) hns2 hself ?_)
  obtain ⟨hp, g, d, t, os⟩ := s
  refine set_plain X2 (ox := excO C t1) (od := none) ⟨hx2, rfl, rfl, trivial⟩ T.sa ?_
  refine exc_osa X2 hx2 hcl (show refsVE (.ref C :: bm) = true from hbm) rfl fo.no (fun h₃ tk₃ dx k₃ dn dne hx₃ hn₃ => ?_)
  have hL2 : hp.objs.size < h₂.objs.size := by
    obtain ⟨o, es, ep, e, _⟩ := hns2
    exact Heap.lt_size e
  have dn' : h₂.objs.size ≤ dx := dn
  have hdL : dx ≠ hp.objs.size := by omega
  have X3 : K.In h₃ := fun b o e => k₃ b o (fun z => by rw [z, hnx x hbig] at e; cases e) (X2 b o e)
  refine stores T S hself hdL dne as vs _ [a.f] ⟨h₃, g, d, tk₃, os⟩ _ hlen (fun p hp => hf p (by rw [List.zip_cons_cons]; exact List.mem_cons_of_mem _ hp)) X3 (hnx dx (by show hp.objs.size ≤ dx + 1; omega)) (hns2.at fun o e => k₃ _ o hLx e) hx₃ hn₃ (by simpa using Within.cons a.f v Within.nil) (by simp; omega) fun h₄ tk₄ k₄ hn₄ => ?_
  refine hq h₄ tk₄ dx t1 ⟨fun b o hb e => k₄ b o (fun z => ?_) (k₃ b o hb (k₂ b o hb (hk₁ b o e))), k₄ _ _ (Ne.symm dne) hx₃, by show hp.objs.size ≤ dx; omega, dne, hn₄⟩
  rw [z] at e
  have h5 : dx < hp.objs.size := Heap.lt_size e
  omega
end
end MI.XC
namespace MI.XC
open PySem PySem.W PySem.Calls PyProof.Rows PySem.HandSPX
/-- the statement of __init__ that calls the base's -/
def supSt (js : PySem.Expr) (p0 p1 p2 p3 p4 : Pos) : PySem.Stmt := .Expr (.Call (.Attribute (.Call (.Name "super" p0) [] [] p1) "__init__" p2) [js] [] p3) p4
def bindsOf (fs : List Str) (x : Addr) (vs : List Value) : List (Str × Value) := (("self" : Str), Value.ref x) :: fs.zip vs
/-- all that stands written of an exception class's __init__, its fields fs -/
structure XT (prog : Program) (K : Frag) (C fI cc cda : Addr) (qual : Str) (params : Arguments) (scope : Scope) (js : PySem.Expr) (p0 p1 p2 p3 p4 : Pos) (as : List Asg) (fs : List Str) : Prop where
  T : CT prog K C fI cc cda qual params (supSt js p0 p1 p2 p3 p4 :: as.map Asg.st) scope
  S : SH prog params scope
  ga : findIn K (.ref C) "__getattribute__" = some (some (.builtin "BaseException.__getattribute__"))
  gg : findIn K (.ref C) "__getattr__" = some none
  hd : hasDictIn K C = true
  ef : as.map Asg.f = fs
  nd : fs.Nodup
  ne : fs ≠ []
  lz : fs.length ≤ 100
  self : ("self" : Str) ∉ fs
  cell : ∀ y ∈ scope.names, y.2 ≠ .cell
  co : scope.isCoroutine = false
  gen : scope.isGenerator = false
  fl : ∀ f ∈ fs, scope.names.lookup f = some .local ∧ (f == ("__debug__" : Str)) = false ∧ findIn K (.ref C) f = some none
  bind : ∀ (s' : Shared) (dV kV doc pm : Value) (an : Option Addr) (ct : Value) (x : Addr) (vs : List Value), dV = .none → vs.length = fs.length → BindsTo s' (ksFn "__init__" qual params (supSt js p0 p1 p2 p3 p4 :: as.map Asg.st) scope dV kV doc pm an (.ref cda) ct cc) ⟨.ref x :: vs, []⟩ (bindsOf fs x vs)
  js_ : ∃ (e1 e2 : PySem.Expr) (es : List PySem.Expr) (p : Pos), js = .JoinedStr (e1 :: e2 :: es) p ∧ fsB fs (e1 :: e2 :: es) = true ∧ es.length ≤ 100
  star : ∀ env, starEach [js] env = (false, eval js env) :: starEach [] env
  ev : ∃ pl : Sem Bool, ∀ L, eval (.Call (.Attribute (.Call (.Name "super" p0) [] [] p1) "__init__" p2) [js] [] p3) (ksEnv qual scope L fI (.ref cda) cc) = (do
      let ov ← attributeBase (.Call (.Name "super" p0) [] [] p1) "__init__" (ksEnv qual scope L fI (.ref cda) cc) (eval (.Call (.Name "super" p0) [] [] p1) (ksEnv qual scope L fI (.ref cda) cc))
      standAt p2.atName
      let (f, first) ← holding [ov] (getMethod ov "__init__" pl)
      callWith p3 f first (backTo p3 (starEach [js] (ksEnv qual scope L fI (.ref cda) cc))) [])
theorem lookup_rev {α : Type} : ∀ {l : List (Str × α)} {k : Str} {v : α}, (l.map (·.1)).Nodup → (k, v) ∈ l → l.reverse.lookup k = some v := by
  intro l k v nd h
  have nd2 : (l.reverse.map (·.1)).Nodup := by rw [List.map_reverse]; exact (List.reverse_perm _).nodup_iff.mpr nd
  have h2 : (k, v) ∈ l.reverse := List.mem_reverse.mpr h
  revert nd2 h2
  generalize l.reverse = r
  intro nd2 h2
  induction r with
  | nil => cases h2
  | cons p r ih =>
    rw [List.map_cons, List.nodup_cons] at nd2
    rcases List.mem_cons.mp h2 with rfl | h3
    · simp [List.lookup]
    · have ne : (k == p.1) = false := by
        have : k ≠ p.1 := fun z => nd2.1 (List.mem_map.mpr ⟨(k, v), h3, z⟩)
        simpa using this
      rw [List.lookup_cons, ne]
      exact ih nd2.2 h3
theorem zip_fst {α β : Type} : ∀ {l : List α} {m : List β}, l.length = m.length → (l.zip m).map (·.1) = l
  | [], _, _ => by simp
  | a :: l, b :: m, h => by rw [List.zip_cons_cons, List.map_cons, zip_fst (by simpa using h)]
  | a :: l, [], h => by simp at h
/-- a made exception -/
structure OwnMade (h h' : Heap) (e C d : Addr) (fvs : List (Str × Value)) : Prop where
  keep : ∀ b o, h.get? b = some o → h'.get? b = some o
  new : h.objs.size ≤ e
  obj : ∃ oe vs, h'.get? e = some oe ∧ oe.cls = .ref C ∧ oe.dict = some d ∧ oe.data = .fields vs ∧ vs[1]? = some .none ∧ vs[2]? = some .none
  dbig : h.objs.size ≤ d
  dne : d ≠ e
  ns : h'.Ns1 d (putA (fun _ => none) fvs)
section
variable {prog : Program} {w : World} {A : Around} {K : Frag} {C fI cc cda : Addr} {qual : Str} {params : Arguments} {scope : Scope} {mg mb : Str → Option Value} {s : Shared} {R : Result → Shared → Prop} {js : PySem.Expr} {p0 p1 p2 p3 p4 : Pos} {as : List Asg} {fs : List Str}
theorem made_ok (T : XT prog K C fI cc cda qual params scope js p0 p1 p2 p3 p4 as fs) {us : List Value} (hl : us.length = fs.length) (hs : us.all shortV = true)
    (X : K.In s.heap) (hlim : s.heap.NoLimit) (hg : s.heap.Ns mainGlobals mg) (hsup : mg "super" = none) (hb : s.heap.Ns builtinsNs mb) (hmb : mb "super" = some (.type "super")) (hroom : A.depth + 1 < recursionLimit)
    (hq : ∀ h' tk e d, OwnMade s.heap h' e C d (fs.zip us) → R (.ok (.ret (.ref e))) { s with heap := h', toks := tk }) : codeAny (model prog w) A (.call (.ref C) ⟨us, []⟩) R s := by
  obtain ⟨nm, q, N, bs, bm, sn, sub, ab, col, dd, k0, k1, k2, k3, k5, hC, hbm⟩ := T.T.cls
  obtain ⟨e1, e2, es, jp, ejs, hfs, hes⟩ := T.js_
  have lz := T.lz
  obtain ⟨hp, g, dr, tk, os⟩ := s
  have k : ∀ b o, hp.get? b = some o → ((hp.push (kdv_tup us)).push (excO C hp.objs.size)).get? b = some o := fun b o e => Heap.get?_push_of_some _ (Heap.get?_push_of_some _ e)
  have hget : ((hp.push (kdv_tup us)).push (excO C hp.objs.size)).get? (hp.objs.size + 1) = some (excO C hp.objs.size) := by heap_get
  have hsz : ((hp.push (kdv_tup us)).push (excO C hp.objs.size)).objs.size = hp.objs.size + 2 := by rw [Heap.size_push, Heap.size_push]
  have hnx : ∀ b, ((hp.push (kdv_tup us)).push (excO C hp.objs.size)).objs.size ≤ b + 1 → K.lookup b = none := fun b hb => by
    cases e : K.lookup b with
    | none => rfl
    | some o =>
      have z : b < hp.objs.size := Heap.lt_size (X _ _ e)
      rw [hsz] at hb
      omega
  have sp : ∀ x, ((bindsOf fs x us).map (·.1)) = ("self" : Str) :: fs := fun x => by
    unfold bindsOf
    rw [List.map_cons, zip_fst hl.symm]
  have bn : ∀ x, ((bindsOf fs x us).map (·.1)).Nodup := fun x => by
    rw [sp, List.nodup_cons]
    exact ⟨T.self, T.nd⟩
  have val : ∀ x, ∀ p ∈ fs.zip us, (bindsOf fs x us).reverse.lookup p.1 = some p.2 := fun x p hp => lookup_rev (bn x) (List.mem_cons_of_mem _ hp)
  refine call_own F.excBase_ValueError (fun X => refsVE_contains X bm hbm) (X _ _ hC) (looks_findIn X T.T.iC) (fun self => bind_fn X self T.T.tI) (by rw [sizeLine_eq]; omega) ?_
  cases as with
  | nil =>
    have := T.ef
    exact absurd this.symm T.ne
  | cons a as =>
    cases us with
    | nil =>
      have h0 : fs.length = 0 := hl.symm
      exact absurd (List.length_eq_zero_iff.mp h0) T.ne
    | cons v vs =>
      have hla : (a :: as).length = (v :: vs).length := by rw [hl, ← T.ef, List.length_map]
      have hjs : ∀ (A : Around) (E : Value → Shared → Prop) (L : Addr) (s' : Shared) (Q : Value → Shared → Prop), s'.heap.Ns L (fun y => (bindsOf fs (hp.objs.size + 1) (v :: vs)).reverse.lookup y) → (∀ z t k, z.length ≤ sizeLine → Q (.str z t) { s' with toks := k }) → wpAny (model prog w) A (eval js (ksEnv qual scope L fI (.ref cda) cc)) Q E s' := fun A E L s' Q hn hQ => by
        rw [ejs]
        refine wpAny_JoinedStr (joins_ok (ps := fs) (m := fun y => (bindsOf fs (hp.objs.size + 1) (v :: vs)).reverse.lookup y) T.S.fu (fun y hy => ?_) (e1 :: e2 :: es) Str.empty s' _ hfs ?_ hn fun out k ho => ⟨ho, hQ _ _ _ ho⟩)
        · obtain ⟨h1, h2, _⟩ := T.fl y hy
          obtain ⟨j, hj, ey⟩ := List.getElem_of_mem hy
          have hj2 : j < (v :: vs).length := by omega
          have hm : (y, (v :: vs)[j]) ∈ fs.zip (v :: vs) := by
            refine List.mem_of_getElem? (i := j) ?_
            rw [List.getElem?_zip_eq_some]
            exact ⟨by rw [List.getElem?_eq_getElem hj, ey], List.getElem?_eq_getElem hj2⟩
          exact ⟨h1, h2, _, val _ _ hm, List.all_eq_true.mp hs _ (List.getElem_mem hj2)⟩
        · rw [sizeLine_eq]
          have : (Str.empty).length = 0 := rfl
          simp only [List.length_cons]
          omega
      refine init_ok (s := ⟨(hp.push (kdv_tup (v :: vs))).push (excO C hp.objs.size), g, dr, tk, os⟩) (binds := bindsOf fs (hp.objs.size + 1) (v :: vs)) T.T T.S (X.keeps k) (hlim.keeps k) (hg.at fun o e => k _ _ e) hsup (hb.at fun o e => k _ _ e) hmb hget hnx (by show _ ≤ _; rw [hsz]; omega) ?_ (fun s' _ dV kV doc pm an ct hdv => T.bind s' dV kV doc pm an ct _ _ hdv hl) T.cell ?_ T.co T.gen (lookup_rev (bn _) List.mem_cons_self) (by simpa using hla) (fun p hp' => ?_) (by have := T.ef; rw [← this] at lz; simp at lz; omega) hjs (fun L => T.star _) T.ev (fun h' tk' dx t1 IE => ?_)
      · show A.depth + 1 < recursionLimit
        exact hroom
      · intro y hy
        rcases List.mem_cons.mp hy with rfl | hy
        · exact T.S.se
        · exact (T.fl y.1 (List.of_mem_zip hy).1).1
      · obtain ⟨m1, m2⟩ := List.of_mem_zip hp'
        have mf : p.1.f ∈ fs := by rw [← T.ef]; exact List.mem_map.mpr ⟨_, m1, rfl⟩
        have mz : (p.1.f, p.2) ∈ fs.zip (v :: vs) := by
          rw [← T.ef, List.zip_map_left]
          exact List.mem_map.mpr ⟨p, hp', rfl⟩
        obtain ⟨f1, f2, f3⟩ := T.fl _ mf
        exact ⟨f3, f1, f2, val _ _ mz⟩
      · have old : ∀ b o, hp.get? b = some o → h'.get? b = some o := fun b o e => IE.keep b o (Nat.ne_of_lt (Nat.lt_succ_of_lt (Heap.lt_size e))) (k b o e)
        have z : hp.objs.size + 2 ≤ dx := by have := IE.dbig; rw [hsz] at this; exact this
        refine ⟨rfl, hq h' tk' (hp.objs.size + 1) dx ⟨old, Nat.le_succ _, ⟨_, _, IE.obj, rfl, rfl, rfl, rfl, rfl⟩, by show hp.objs.size ≤ dx; omega, IE.dne, ?_⟩⟩
        have e := IE.ns
        rw [T.ef] at e
        exact e
end
end MI.XC
namespace MI.XC
open PySem PySem.Spec PyProof.Rows L2
def shortL : V → Bool
  | .str z => decide (z.length ≤ 1000)
  | .int i => decide (i.natAbs.log2 < 1920)
  | _ => false
theorem short_vals : ∀ {vs : List V} {us : List Value}, Vals vs us → vs.all shortL = true → us.all shortV = true
  | _, _, .nil, _ => rfl
  | v :: vs, u :: us, .cons r rs, h => by
    rw [List.all_cons, Bool.and_eq_true] at h
    rw [List.all_cons, Bool.and_eq_true]
    refine ⟨?_, short_vals rs h.2⟩
    have h1 := h.1
    cases v with
    | str z => obtain ⟨t, rfl⟩ := r; exact h1
    | int i => obtain ⟨t, rfl⟩ := r; exact h1
    | _ => cases h1
theorem putA_not : ∀ (l : List (Str × Value)) (m0 : Str → Option Value) (f : Str), f ∉ l.map (·.1) → putA m0 l f = m0 f
  | [], _, _, _ => rfl
  | (g, v) :: l, m0, f, h => by
    rw [List.map_cons, List.mem_cons] at h
    show putA _ l f = _
    rw [putA_not l _ f fun z => h (.inr z)]
    exact if_neg fun z => h (.inl z)
theorem rel_put : ∀ (fs : List Str) (vs : List V) (us : List Value) (m0 : Str → Option Value), fs.Nodup → fs.length = vs.length → Vals vs us → (∀ f, f ∉ fs → m0 f = none) → ∀ f, RelO ((fs.zip vs).lookup f) (putA m0 (fs.zip us) f)
  | [], vs, us, m0, _, _, _, h0, f => by
    rw [List.zip_nil_left, List.zip_nil_left]
    show RelO none (m0 f)
    rw [h0 f (by simp)]
    exact True.intro
  | g :: fs, [], _, _, _, hl, _, _, _ => by simp at hl
  | g :: fs, v :: vs, u :: us, m0, nd, hl, .cons r rs, h0, f => by
    rw [List.nodup_cons] at nd
    have hl' : fs.length = vs.length := by simpa using hl
    rw [List.zip_cons_cons, List.zip_cons_cons, List.lookup_cons]
    by_cases e : f = g
    · subst e
      have e1 : (f == f) = true := by simp
      rw [e1]
      show RelO (some v) (putA _ (fs.zip us) f)
      rw [putA_not _ _ _ (by rw [zip_fst (by rw [hl']; exact rs.length)]; exact nd.1), if_pos rfl]
      exact r
    · have e1 : (f == g) = false := by simpa using e
      rw [e1]
      show RelO ((fs.zip vs).lookup f) (putA _ (fs.zip us) f)
      by_cases hm : f ∈ fs
      · have key : ∀ (l : List (Str × Value)) (m1 m2 : Str → Option Value), f ∈ l.map (·.1) → putA m1 l f = putA m2 l f := by
          intro l
          induction l with
          | nil => intro m1 m2 h; cases h
          | cons p l ih =>
            intro m1 m2 h
            obtain ⟨y, w⟩ := p
            show putA _ l f = putA _ l f
            by_cases h2 : f ∈ l.map (·.1)
            · exact ih _ _ h2
            · rw [putA_not _ _ _ h2, putA_not _ _ _ h2]
              rcases List.mem_cons.mp h with q | q
              · have q : f = y := q
                rw [if_pos q, if_pos q]
              · exact absurd q h2
        rw [key _ _ (fun _ => none) (by rw [zip_fst (by rw [hl']; exact rs.length)]; exact hm)]
        exact rel_put fs vs us (fun _ => none) nd.2 hl' rs (fun _ _ => rfl) f
      · rw [putA_not _ _ _ (by rw [zip_fst (by rw [hl']; exact rs.length)]; exact hm), if_neg e, h0 f (by simp [e, hm])]
        have : (fs.zip vs).lookup f = none := by
          rw [List.lookup_eq_none_iff]
          intro p hp
          have : f ≠ p.1 := fun z => hm (z ▸ (List.of_mem_zip hp).1)
          simpa using this
        rw [this]
        exact True.intro
section
variable {X : Cx} {C fI cc cda : Addr} {qual : Str} {params : Arguments} {scope : Scope} {js : PySem.Expr} {p0 p1 p2 p3 p4 : Pos} {as : List Asg} {fs : List Str}
/-- C(e, ..) -/
def tMkX (C : Addr) (fs : List Str) (ta : TA) : L2.St → Hp → XK → Prop := fun σ H Q => ta σ H fun vs H1 => vs.length = fs.length ∧ vs.all shortL = true ∧ ∀ d, H1 d = none → Q (.ref C) (some d) (upd H1 d (.xd (fs.zip vs)))
theorem pmk_x {x : Str} {e : PySem.Expr} {es : List PySem.Expr} {ta : TA} {p pos : Pos} {k : Nat} (T : XT X.prog X.K C fI cc cda qual params scope js p0 p1 p2 p3 p4 as fs) (hm : X.mg x = some (.ref C)) (hsup : X.mg "super" = none) (hr : Room k X.A) (ha : PA X (e :: es) ta) (hg : Gl X x) (hd : (x == ("__debug__" : Str)) = false)
    (he : starEach (e :: es) X.env = (false, eval e X.env) :: starEach es X.env) (hpl : (backTo pos (starEach es X.env)).any (·.1) = false) :
    L2N.PMk X (.Call (.Name x p) (e :: es) [] pos) (tMkX C fs ta) := by
  intro pins s σ H Q I h
  refine wpAny_Call_Name_kw (ld_glob I hg hm ?_ hd)
  refine PySem.W.callWith_K (h₀ := X.base) I.ok.mod.kin T.T.kC (thn (ha.run pos pins s σ H _ I h) fun us s1 hh => ?_) he hpl
  obtain ⟨vs, H1, I1, rv, hl, hsh, q1⟩ := hh
  refine ⟨I1.kIn, ?_⟩
  show wpAny _ _ (call (.ref C) us) _ _ _
  have hlim := I1.nolimit
  have hlu : us.length = fs.length := by rw [← rv.length]; exact hl
  obtain ⟨mb, b1, b2⟩ := I1.mod.blt
  have gb : s1.heap.Ns mainGlobals X.mg := I1.mod.glob.keeps I1.bk
  have bb : s1.heap.Ns builtinsNs mb := b1.keeps I1.bk
  obtain ⟨hp, g, dr, tk, os⟩ := s1
  refine wpAny_call (made_ok T hlu (short_vals rv hsh) I1.kIn hlim gb hsup bb ((b2 _ (by decide)).trans (by first | boot_by_name | rfl | kernel_rfl)) (by have := hr.dp; omega) fun h' tk' e' d M => ?_)
  show L2N.MkP X pins σ Q (.ref e') ⟨h', g, dr, tk', os⟩
  obtain ⟨oe, fv, hoe, hc, hd', hdat, h1, h2v⟩ := M.obj
  have hns := M.ns
  obtain ⟨G', g1, g2⟩ := restrict h' fun b => decide (b ≠ e')
  have gk : ∀ b, b ≠ e' → G'.get? b = h'.get? b := fun b hb => g1 b (decide_eq_true hb)
  have ge : G'.get? e' = none := g2 e' (by simp)
  have old : ∀ b o, hp.get? b = some o → G'.get? b = some o := fun b o q => (gk b (Nat.ne_of_lt (Nat.lt_of_lt_of_le (Heap.lt_size q) M.new))).trans (M.keep b o q)
  have ob : ObjOk X.prog X.w (upd H1 d (.xd (fs.zip vs))) G' d (.xd (fs.zip vs)) :=
    ⟨_, hns.at (fun o q => (gk d M.dne).trans q), rel_put fs vs us (fun _ => none) T.nd hl.symm rv fun _ _ => rfl⟩
  have J : Inv X pins σ (upd H1 d (.xd (fs.zip vs))) ⟨G', g, dr, tk', os⟩ := I1.laid (t' := tk') old M.dbig ob
  refine ⟨e', oe, fv, ⟨G', g, dr, tk', os⟩, _, .ref C, some d, rfl, J, fun b o q => ?_, ge, hoe, ⟨hc, hd', fun vs' e => by rw [hdat] at e; cases e; exact h2v⟩, hdat, h1, ?_, rfl, I1.bare, raises_own T.T.exC T.T.tyC, q1 d (I1.hok.fresh M.dbig)⟩
  · by_cases hb : b = e'
    · have q' : G'.get? b = some o := q
      rw [hb, ge] at q'; cases q'
    · exact (gk b hb).symm.trans q
  · rw [upd_ne (Ne.symm M.dne)]
    exact I1.hok.fresh M.new
end
end MI.XC
namespace MI
open PySem PySem.Spec L2
/-! ### raise, and the clauses of a try -/
/-- a class of the module's own: made with the fields fs -/
def XcOk (P : Program) (K : PySem.W.Frag) (mg : Str → Option Value) (c : Str) (fs : List Str) : Prop :=
  ∃ (C fI cc cda : Addr) (qual : Str) (params : Arguments) (scope : Scope) (js : PySem.Expr) (p0 p1 p2 p3 p4 : Pos) (as : List XC.Asg), mg c = some (.ref C) ∧ XC.XT P K C fI cc cda qual params scope js p0 p1 p2 p3 p4 as fs
/-- an exception of the class c is one of the class y, or not -/
def ExmOk (K : PySem.W.Frag) (mg : Str → Option Value) (c y : Str) (b : Bool) : Prop := ∃ C E, mg c = some (.ref C) ∧ mg y = some (.ref E) ∧ PySem.W.exmOne K (.ref C) (.ref E) = some b
/-- the fields of an exception of the class c can be read -/
def FldOk (K : PySem.W.Frag) (mg : Str → Option Value) (c : Str) (fl : List Str) : Prop := ∃ C, mg c = some (.ref C) ∧ XfC K C ∧ ∀ f ∈ fl, PySem.W.findIn K (.ref C) f = some none
theorem XcOk.fld {P : Program} {K : PySem.W.Frag} {mg : Str → Option Value} {c : Str} {fs : List Str} (h : XcOk P K mg c fs) : FldOk K mg c fs := by
  obtain ⟨C, fI, cc, cda, qual, params, scope, js, p0, p1, p2, p3, p4, as, hm, T⟩ := h
  exact ⟨C, hm, ⟨T.ga, T.gg, T.T.exC, T.hd⟩, fun f hf => (T.fl f hf).2.2⟩
theorem FldOk.mono {K : PySem.W.Frag} {mg : Str → Option Value} {c : Str} {fl fl' : List Str} (h : FldOk K mg c fl) (s : ∀ f ∈ fl', f ∈ fl) : FldOk K mg c fl' := by
  obtain ⟨C, h1, h2, h3⟩ := h
  exact ⟨C, h1, h2, fun f hf => h3 f (s f hf)⟩
structure InS (X : Cx) (io : Option Nat) (a : Addr) (cls : Value) (d : Option Addr) (hid : List Addr) (ρ : Rho) (env : MEnv) (c : Str) (fs : List (Str × D)) (S : Store) (σ : L2.St) (H : Hp) : Prop where
  rs : RelS X.K hid ρ H X.mg S
  re : RelE X.K hid ρ H σ env
  at_ : ∀ i, io = some i → σ[i]? = some (some (.ref a))
  ex : ExcRep X.K X.mg hid ρ H cls d c fs
section
variable {X : Cx} {W : WX} {io : Option Nat} {fl : List Str} {a : Addr} {cls : Value} {d : Option Addr} {hid : List Addr} {ρ : Rho} {env : MEnv} {c : Str} {fs : List (Str × D)} {S : Store} {σ : L2.St} {H : Hp} {p : Addr} {o : HO}
theorem InS.new (h : InS X io a cls d hid ρ env c fs S σ H) (hp : H p = none) : InS X io a cls d hid ρ env c fs S σ (upd H p o) := by
  have s := same_new (o := o) hp
  refine ⟨h.rs.same s, h.re.mono (Ext.same s), h.at_, ?_⟩
  obtain ⟨C, h1, h2, h3⟩ := h.ex
  refine ⟨C, h1, h2, ?_⟩
  rcases h3 with h3 | ⟨dd, gs, q1, q2, q3⟩
  · exact .inl h3
  · exact .inr ⟨dd, gs, q1, s _ _ q2, Paired.mapP q3 fun _ _ z => ⟨z.1, z.2.mono (Ext.same s)⟩⟩
theorem kv_at {K : PySem.W.Frag} {f : Str} {v : D} : ∀ {gs : List (Str × V)} {fs : List (Str × D)}, RepKV K hid ρ H gs fs → fs.lookup f = some v → ∃ w, gs.lookup f = some w ∧ Rep K hid ρ H w v
  | [], [], .nil, h => by cases h
  | (g, w) :: gs, (g', d) :: fs, .cons q r, h => by
    obtain ⟨q1, q2⟩ := q
    have q1 : g = g' := q1
    subst q1
    rw [List.lookup_cons] at h ⊢
    by_cases e : (f == g) = true
    · rw [e] at h ⊢
      cases h
      exact ⟨w, rfl, q2⟩
    · have e : (f == g) = false := by simpa using e
      rw [e] at h ⊢
      exact kv_at r h
/-- what a clause's expression tells -/
def tXA (X : Cx) (io : Option Nat) (fl : List Str) (a : Addr) (cls : Value) (d : Option Addr) (x : XA) : TE := fun σ H Q => ∃ hid ρ env S c fs dd, InS X io a cls d hid ρ env c fs S σ H ∧ FldOk X.K X.mg c fl ∧ xa x env fs = some dd ∧
  ∀ H' v, Ext ρ H ρ H' → InS X io a cls d hid ρ env c fs S σ H' → Rep X.K hid ρ H' v dd → Q v H'
def tXAs (X : Cx) (io : Option Nat) (fl : List Str) (a : Addr) (cls : Value) (d : Option Addr) (xs : List XA) : TA := fun σ H Q => ∃ hid ρ env S c fs ds, InS X io a cls d hid ρ env c fs S σ H ∧ FldOk X.K X.mg c fl ∧ xas xs env fs = some ds ∧
  ∀ H' vs, Ext ρ H ρ H' → InS X io a cls d hid ρ env c fs S σ H' → RepL X.K hid ρ H' vs ds → Q vs H'
def tXH (X : Cx) (io : Option Nat) (fl : List Str) (a : Addr) (cls : Value) (d : Option Addr) (h : XH) : TS := fun D σ H => ∃ hid ρ env S c fs, InS X io a cls d hid ρ env c fs S σ H ∧ FldOk X.K X.mg c fl ∧ PostF X.K X.mg hid ρ H (xh h env fs S) D (fun _ _ _ _ => False)
def intsB : List Int → List PySem.Expr → Bool
  | [], [] => true
  | k :: ks, .Constant (.int j) _ _ :: es => decide (j = k) && intsB ks es
  | _, _ => false
def chkA (N : List Str) (sc : Scope) (io : Option Nat) (fl : List Str) : XA → PySem.Expr → Bool
  | .fld f, e => (match e with | .Attribute (.Name x q) g _ => (decide (g = f) && fl.contains f) && (match io with | some i => varB N sc i (.Name x q) | none => false) | _ => false)
  | .var j, e => varB N sc j e
  | .non, e => (match e with | .Constant .none _ _ => true | _ => false)
  | .bl b, e => (match e with | .Constant (.bool c) _ _ => b == c | _ => false)
  | .int i, e => (match e with | .Constant (.int j) _ _ => i == j | _ => false)
  | .str s, e => (match e with | .Constant (.str t) _ _ => s == t | _ => false)
  | .eqC x k, e => (match e with | .Compare l [.Eq] [.Constant (.int j) _ _] _ => decide (j = k) && chkA N sc io fl x l | _ => false)
  | .inC x ks, e => (match e with | .Compare l [.In] [.List ls _] _ => (decide (ks.length ≤ 1000000) && intsB ks ls) && chkA N sc io fl x l | _ => false)
def chkAs (N : List Str) (sc : Scope) (io : Option Nat) (fl : List Str) : List XA → List PySem.Expr → Bool
  | [], es => (match es with | [] => true | _ => false)
  | x :: xs, es => (match es with | e :: es => (chkA N sc io fl x e && !isStar e) && chkAs N sc io fl xs es | _ => false)
def chkH (N : List Str) (sc : Scope) (io : Option Nat) (fl : List Str) : XH → PySem.Stmt → Bool
  | .ret x, st => (match st with | .Return (some e) _ => chkA N sc io fl x e | _ => false)
  | .retC f _ xs, st => (match st with | .Return (some (.Call (.Name y _) (e :: es) [] _)) _ => (decide (y = f) && (glB sc f && nmOk f)) && (chkAs N sc io fl xs (e :: es) && ((e :: es).all fun e => !isStar e)) | _ => false)
  | .retL xs, st => (match st with | .Return (some (.List es _)) _ => decide (xs.length ≤ 1000000) && chkAs N sc io fl xs es | _ => false)
theorem pa_ints {X : Cx} : ∀ {ks : List Int} {es : List PySem.Expr}, intsB ks es = true → PA X es (fun _ H Q => Q (ks.map V.int) H)
  | [], [], _ => PA.imp pa_nil fun σ H Q h => h
  | [], e :: es, h => by simp [intsB] at h
  | k :: ks, [], h => by simp [intsB] at h
  | k :: ks, e :: es, h => by
    unfold intsB at h
    split at h
    · rename_i h0 _; cases h0
    · rename_i k0 ks0 j x1 x2 es0 hk he
      cases hk; cases he
      obtain ⟨h1, h2⟩ := Bool.and_eq_true_iff.mp h
      have h1 := of_decide_eq_true h1
      subst h1
      exact PA.imp (pa_cons pe_int (pa_ints h2)) fun σ H Q q => q
    · cases h
theorem mem_ints {n : Int} : ∀ (ks : List Int), memD (.int n) (ks.map D.int) = some (ks.contains n)
  | [] => rfl
  | k :: ks => by
    have ih := mem_ints (n := n) ks
    rw [List.map_cons]
    show (match some (k == n) with | some b => (match memD (.int n) (ks.map D.int) with | some c => some (b || c) | none => none) | none => none) = _
    rw [ih, List.contains_cons]
    have : (k == n) = (n == k) := by rw [Bool.eq_iff_iff, beq_iff_eq, beq_iff_eq]; exact eq_comm
    rw [← this]
theorem rep_ints {K : PySem.W.Frag} : ∀ (ks : List Int), RepL K hid ρ H (ks.map V.int) (ks.map D.int)
  | [] => .nil
  | k :: ks => .cons (.int k) (rep_ints ks)
theorem flat_ints : ∀ (ks : List Int), (ks.map D.int).all flatD = true
  | [] => rfl
  | k :: ks => by rw [List.map_cons, List.all_cons, flat_ints ks]; rfl
section
variable {N : List Str} {sc : Scope} {oe : Obj} {pn : List (Addr × Obj)}
theorem varB_ok {i : Nat} {e : PySem.Expr} (hN : X.N = N) (hsc : X.env.scope = sc) (h : varB N sc i e = true) : ∃ x p, e = .Name x p ∧ X.N[i]? = some x ∧ Vis X.env.scope x ∧ (x == ("__debug__" : Str)) = false ∧ (x == ("__classdict__" : Str)) = false := by
  unfold varB at h
  split at h
  · rename_i x p
    simp only [Bool.and_eq_true, decide_eq_true_eq, nmOk, Bool.not_eq_true'] at h
    obtain ⟨h1, h2, h3, h4⟩ := h
    refine ⟨x, p, rfl, by rw [hN]; exact h1, ?_, h3, h4⟩
    rw [hsc]
    unfold visB at h2
    unfold Vis
    split at h2 <;> first | exact .inl (by assumption) | exact .inr (.inl (by assumption)) | exact .inr (.inr (by assumption)) | cases h2
  · cases h
theorem pe_xa (hN : X.N = N) (hsc : X.env.scope = sc) (hz : Zc cls d oe) (hf : ∃ vs, oe.data = .fields vs) : ∀ (x : XA) {e : PySem.Expr}, chkA N sc io fl x e = true → PE (X.suite a ((a, oe) :: pn)) e (tXA X io fl a cls d x)
  | .fld f, e, h => by
    unfold chkA at h
    split at h
    · rename_i y q g ap
      obtain ⟨h1, h2⟩ := Bool.and_eq_true_iff.mp h
      obtain ⟨h3, h4⟩ := Bool.and_eq_true_iff.mp h1
      have h3 := of_decide_eq_true h3
      subst h3
      have hin : g ∈ fl := by simpa using h4
      cases io with
      | none => cases h2
      | some i =>
        obtain ⟨y', p', e', q1, q2, q3, q4⟩ := varB_ok hN hsc h2
        cases e'
        by_cases hC : ∃ C, cls = .ref C ∧ XfC X.K C ∧ PySem.W.findIn X.K (.ref C) g = some none
        · obtain ⟨C, hc, T, hno⟩ := hC
          have hv : PE (X.suite a ((a, oe) :: pn)) (.Name y q) (tVar i) := pe_var q1 q2 q3 q4
          refine PE.imp (pe_xf (C := C) (n := g) T hno hz hf hv) fun σ H Q hw => ?_
          obtain ⟨hid, ρ, env, S, c, fs, dd, ins, hF, hx, k⟩ := hw
          refine ⟨_, ins.at_ i rfl, rfl, hc, ?_⟩
          obtain ⟨C', h1', h2', h3'⟩ := ins.ex
          have hx : fs.lookup g = some dd := hx
          rcases h3' with z | ⟨ddA, gs, z1, z2, z3⟩
          · rw [z] at hx; cases hx
          · obtain ⟨w, w1, w2⟩ := kv_at z3 hx
            exact ⟨ddA, gs, w, z1, z2, w1, k H w Ext.refl ins w2⟩
        · refine ⟨fun pins s σ H Q I hw => ?_⟩
          obtain ⟨hid, ρ, env, S, c, fs, dd, ins, hF, hx, k⟩ := hw
          obtain ⟨C, m1, T, no⟩ := hF
          obtain ⟨C', h1', h2', h3'⟩ := ins.ex
          rw [m1] at h2'
          cases h2'
          exact absurd ⟨C, h1', T, no g hin⟩ hC
    · cases h
  | .var j, e, h => by
    obtain ⟨y', p', e', q1, q2, q3, q4⟩ := varB_ok hN hsc (show varB N sc j e = true from h)
    subst e'
    have hv : PE (X.suite a ((a, oe) :: pn)) (.Name y' p') (tVar j) := pe_var q1 q2 q3 q4
    refine PE.imp hv fun σ H Q hw => ?_
    obtain ⟨hid, ρ, env, S, c, fs, dd, ins, hF, hx, k⟩ := hw
    have hx : (match env[j]? with | some (some d) => some d | _ => none) = some dd := hx
    split at hx
    · rename_i d0 hd
      cases hx
      obtain ⟨v, h1, h2⟩ := ins.re.at_ j _ hd
      exact ⟨v, h1, k H v Ext.refl ins h2⟩
    · cases hx
  | .non, e, h => by
    unfold chkA at h
    split at h
    · refine PE.imp pe_non fun σ H Q hw => ?_
      obtain ⟨hid, ρ, env, S, c, fs, dd, ins, hF, hx, k⟩ := hw
      cases hx
      exact k H _ Ext.refl ins .non
    · cases h
  | .bl b, e, h => by
    unfold chkA at h
    split at h
    · have h := beq_iff_eq.mp h
      subst h
      refine PE.imp pe_bl fun σ H Q hw => ?_
      obtain ⟨hid, ρ, env, S, c, fs, dd, ins, hF, hx, k⟩ := hw
      cases hx
      exact k H _ Ext.refl ins (.bl _)
    · cases h
  | .int b, e, h => by
    unfold chkA at h
    split at h
    · have h := beq_iff_eq.mp h
      subst h
      refine PE.imp pe_int fun σ H Q hw => ?_
      obtain ⟨hid, ρ, env, S, c, fs, dd, ins, hF, hx, k⟩ := hw
      cases hx
      exact k H _ Ext.refl ins (.int _)
    · cases h
  | .str b, e, h => by
    unfold chkA at h
    split at h
    · have h := beq_iff_eq.mp h
      subst h
      refine PE.imp pe_str fun σ H Q hw => ?_
      obtain ⟨hid, ρ, env, S, c, fs, dd, ins, hF, hx, k⟩ := hw
      cases hx
      exact k H _ Ext.refl ins (.str _)
    · cases h
  | .eqC x b, e, h => by
    unfold chkA at h
    split at h
    · obtain ⟨h1, h2⟩ := Bool.and_eq_true_iff.mp h
      have h1 := of_decide_eq_true h1
      subst h1
      refine PE.imp (pe_cmpR op_eq (pe_xa hN hsc hz hf x h2) pe_int rfl) fun σ H Q hw => ?_
      obtain ⟨hid, ρ, env, S, c, fs, dd, ins, hF, hx, k⟩ := hw
      unfold xa at hx
      split at hx
      · rename_i n hn
        cases hx
        refine ⟨hid, ρ, env, S, c, fs, .int n, ins, hF, hn, fun H' v e' ins' rv => ?_⟩
        obtain ⟨f1, f2⟩ := flat_eq rv (.int _) rfl rfl rfl
        refine ⟨f1, ?_⟩
        have eqd : ∀ a b : Int, (a == b) = decide (a = b) := fun a b => by rw [Bool.eq_iff_iff]; simp
        rw [f2, eqd]
        exact k H' _ e' ins' (.bl _)
      · cases hx
    · cases h
  | .inC x ks, e, h => by
    unfold chkA at h
    split at h
    · obtain ⟨h1, h2⟩ := Bool.and_eq_true_iff.mp h
      obtain ⟨h3, h4⟩ := Bool.and_eq_true_iff.mp h1
      refine PE.imp (pe_cmpR op_in_seq (pe_xa hN hsc hz hf x h2) (pe_lst (pa_ints h4)) rfl) fun σ H Q hw => ?_
      obtain ⟨hid, ρ, env, S, c, fs, dd, ins, hF, hx, k⟩ := hw
      unfold xa at hx
      split at hx
      · rename_i n hn
        cases hx
        refine ⟨hid, ρ, env, S, c, fs, .int n, ins, hF, hn, fun H' v e' ins' rv => ?_⟩
        refine ⟨le_line (by rw [List.length_map]; exact of_decide_eq_true h3), fun p hp => ?_⟩
        obtain ⟨g1, g2⟩ := flat_mem rv rfl (rep_ints (K := X.K) (hid := hid) (ρ := ρ) (H := H') ks) (flat_ints ks) (mem_ints ks)
        refine ⟨p, ks.map V.int, rfl, .inl (.inl (.inl upd_same)), rv.flat rfl, g1, ?_⟩
        show Q (.bl (inV v (ks.map V.int))) _
        rw [g2]
        exact k _ _ (e'.trans (Ext.same (same_new hp))) (ins'.new hp) (.bl _)
      · cases hx
    · cases h
theorem pa_xas (hN : X.N = N) (hsc : X.env.scope = sc) (hz : Zc cls d oe) (hf : ∃ vs, oe.data = .fields vs) : ∀ (xs : List XA) {es : List PySem.Expr}, chkAs N sc io fl xs es = true → PA (X.suite a ((a, oe) :: pn)) es (tXAs X io fl a cls d xs)
  | [], es, h => by
    unfold chkAs at h
    split at h
    · refine PA.imp pa_nil fun σ H Q hw => ?_
      obtain ⟨hid, ρ, env, S, c, fs, dd, ins, hF, hx, k⟩ := hw
      cases hx
      exact k H [] Ext.refl ins .nil
    · cases h
  | x :: xs, es, h => by
    unfold chkAs at h
    split at h
    · rename_i e es
      obtain ⟨h1, h2⟩ := Bool.and_eq_true_iff.mp h
      obtain ⟨h3, h4⟩ := Bool.and_eq_true_iff.mp h1
      refine PA.imp (pa_cons (pe_xa hN hsc hz hf x h3) (pa_xas hN hsc hz hf xs h2) (star_cons (by simpa using h4) _ _)) fun σ H Q hw => ?_
      obtain ⟨hid, ρ, env, S, c, fs, ds, ins, hF, hx, k⟩ := hw
      unfold xas at hx
      split at hx
      · rename_i d0 hd
        obtain ⟨ds0, hd0, rfl⟩ := Option.map_eq_some_iff.mp hx
        refine ⟨hid, ρ, env, S, c, fs, d0, ins, hF, hd, fun H' v e' ins' rv => ?_⟩
        refine ⟨hid, ρ, env, S, c, fs, ds0, ins', hF, hd0, fun H'' vs e'' ins'' rl => ?_⟩
        exact k H'' _ (e'.trans e'') ins'' (.cons (rv.mono e'') rl)
      · cases hx
    · cases h
theorem xas_len : ∀ {xs : List XA} {ds : List D}, xas xs env fs = some ds → ds.length = xs.length
  | [], ds, h => by cases h; rfl
  | x :: xs, ds, h => by
    unfold xas at h
    split at h
    · obtain ⟨ds0, h0, rfl⟩ := Option.map_eq_some_iff.mp h
      rw [List.length_cons, List.length_cons, xas_len h0]
    · cases h
def XH.ok (GH : Str → Fn → Prop) : XH → Prop
  | .retC f g _ => GH f g
  | _ => True
/-- the defs that are called in a clause -/
def HotOk (X : Cx) : Str → Fn → Prop := fun x g => ∃ lv, CalH X.prog X.w X.K X.mg X.base lv x g ∧ L2H.RoomH lv X.A
theorem ps_xh (hN : X.N = N) (hsc : X.env.scope = sc) (hz : L2N.Zn cls d oe) (hf : ∃ vs, oe.data = .fields vs) (h : XH) (hk : h.ok (HotOk X)) {st : PySem.Stmt} (hc : chkH N sc io fl h st = true) : PS (X.suite a ((a, oe) :: pn)) st (tXH X io fl a cls d h) := by
  cases h with
  | ret x =>
    simp only [chkH] at hc
    split at hc
    · refine PS.imp (ps_ret (pe_xa hN hsc hz.zc hf x hc)) fun D σ H hw => ?_
      obtain ⟨hid, ρ, env, S, c, fs, ins, hF, p⟩ := hw
      simp only [xh] at p
      split at p
      · rename_i dd hx
        exact ⟨hid, ρ, env, S, c, fs, dd, ins, hF, hx, fun H' v e' ins' rv => p ρ H' v e' ins'.rs rv⟩
      · exact p.elim
    · cases hc
  | retL xs =>
    simp only [chkH] at hc
    split at hc
    · obtain ⟨h1, h2⟩ := Bool.and_eq_true_iff.mp hc
      refine PS.imp (ps_ret (pe_lst (pa_xas hN hsc hz.zc hf xs h2))) fun D σ H hw => ?_
      obtain ⟨hid, ρ, env, S, c, fs, ins, hF, p⟩ := hw
      simp only [xh] at p
      split at p
      · rename_i ds hx
        refine ⟨hid, ρ, env, S, c, fs, ds, ins, hF, hx, fun H' vs e' ins' rl => ?_⟩
        refine ⟨le_line (by rw [rl.length, xas_len hx]; exact of_decide_eq_true h1), fun q hq => ?_⟩
        obtain ⟨q1, q2, q3⟩ := new_lst ins'.rs rl hq
        exact p ρ _ _ (e'.trans q1) q2 q3
      · exact p.elim
    · cases hc
  | retC f0 g xs =>
    simp only [chkH] at hc
    split at hc
    · obtain ⟨h1, h2⟩ := Bool.and_eq_true_iff.mp hc
      obtain ⟨h3, h4⟩ := Bool.and_eq_true_iff.mp h1
      obtain ⟨h5, h6⟩ := Bool.and_eq_true_iff.mp h4
      obtain ⟨h7, h8⟩ := Bool.and_eq_true_iff.mp h2
      have h3 := of_decide_eq_true h3
      obtain ⟨lv, ⟨k, f, fd, ps, F, hm, hkp, hb, hkl⟩, hr⟩ := (show HotOk X f0 g from hk)
      obtain ⟨vs0, hvs⟩ := hf
      have hot : L2H.HotC (X.suite a ((a, oe) :: pn)) := ⟨(a, oe), ⟨rfl, vs0, hvs, hz.2.2 vs0 hvs⟩, List.mem_cons_self⟩
      have hrm : L2H.RoomH k (X.suite a ((a, oe) :: pn)).A := ⟨(hr.mono hkl).dp, (hr.mono hkl).un⟩
      have hgl : Gl (X.suite a ((a, oe) :: pn)) f0 := by
        unfold glB at h5
        show X.env.scope.names.lookup f0 = _
        rw [hsc]
        split at h5
        · assumption
        · cases h5
      subst h3
      have h8' := h8
      rw [List.all_cons, Bool.and_eq_true] at h8'
      refine PS.imp (ps_ret (L2H.pe_callH (X := X.suite a ((a, oe) :: pn)) (E := WE fun _ _ _ _ => False) F hrm hot hgl hm hkp hb (fun σ => L2N.passAt takesN σ) (pa_xas hN hsc hz.zc ⟨vs0, hvs⟩ xs h7) (nm_db h6) (star_cons (by simpa using h8'.1) _ _) (back_none _ (star_none _ h8'.2)))) fun D σ H hw => ?_
      obtain ⟨hid, ρ, env, S, c, fs, ins, hF, p⟩ := hw
      simp only [xh] at p
      split at p
      · rename_i ds hx
        refine ⟨hid, ρ, env, S, c, fs, ds, ins, hF, hx, fun H' vs e' ins' rl => ?_⟩
        split at p
        · rename_i dd S' hg
          refine ⟨hid, ρ, S, ds, ins'.rs, rl, ?_⟩
          rw [hg]
          exact fun ρ' H'' e'' r'' v rv => p ρ' H'' v (e'.trans e'') r'' rv
        · exact p.elim
      · exact p.elim
    · cases hc
end
end
section
variable {X : Cx} {W : WX} {σ : L2.St} {H : Hp} {De : Ends}
theorem short_rep {K : PySem.W.Frag} {hid : List Addr} {ρ : Rho} {H : Hp} : ∀ {vs : List V} {ds : List D}, RepL K hid ρ H vs ds → ds.all shortD = true → vs.all XC.shortL = true
  | _, _, .nil, _ => rfl
  | v :: vs, d :: ds, .cons r rs, h => by
    rw [List.all_cons, Bool.and_eq_true] at h
    rw [List.all_cons, Bool.and_eq_true]
    refine ⟨?_, short_rep rs h.2⟩
    have h1 := h.1
    cases d with
    | str z => cases r; exact h1
    | int i => cases r; exact h1
    | _ => cases h1
theorem zip_rep {K : PySem.W.Frag} {hid : List Addr} {ρ : Rho} {H : Hp} : ∀ {fs : List Str} {vs : List V} {ds : List D}, RepL K hid ρ H vs ds → RepKV K hid ρ H (fs.zip vs) (fs.zip ds)
  | [], _, _, _ => by rw [List.zip_nil_left, List.zip_nil_left]; exact .nil
  | f :: fs, _, _, .nil => by rw [List.zip_nil_right, List.zip_nil_right]; exact .nil
  | f :: fs, _, _, .cons r rs => by rw [List.zip_cons_cons, List.zip_cons_cons]; exact .cons ⟨rfl, r⟩ (zip_rep rs)
/-- raise C(..) -/
theorem s_rais {c : Str} {fs : List Str} {l : PySem.Expr} {ls : List PySem.Expr} {p pos pos2 : Pos} {ces : CEs} {k : Nat} (hX : XcOk X.prog X.K X.mg c fs) (hc : X.calm = true) (tk : L2N.Takes X W) (hsup : X.mg "super" = none) (hr : Room k X.A) (ha : PA X (l :: ls) (tA X W ces)) (hg : Gl X c) (hd : (c == ("__debug__" : Str)) = false)
    (hs : ((l :: ls).all fun e => !isStar e) = true) : PS X (.Raise (some (.Call (.Name c p) (l :: ls) [] pos)) none pos2) (tS X W (ex (.rais c fs ces))) := by
  obtain ⟨C, fI, cc, cda, qual, params, scope, js, p0, p1, p2, p3, p4, as, hm, T⟩ := hX
  have hs' : isStar l = false ∧ (ls.all fun e => !isStar e) = true := by simpa using hs
  refine PS.imp (L2N.ps_raise hc tk (XC.pmk_x T hm hsup hr ha hg hd (star_cons hs'.1 ls X.env) (back_none pos (star_none X.env hs'.2)))) fun D σ H h => ?_
  have h' : tS X W (fun env S => (evs ces env S).fl env fun ds S => if ds.length = fs.length ∧ ds.all shortD = true then Fl.ex c (fs.zip ds) env S else Fl.stuck) D σ H := h
  refine h'.fl fun hid ρ1 H1 ds S1 env r1 e1 p1 vs rl => ?_
  split at p1
  · rename_i hl
    refine ⟨by rw [rl.length]; exact hl.1, short_rep rl hl.2, fun d hd0 => ?_⟩
    have s := same_new (o := HO.xd (fs.zip vs)) hd0
    exact p1 ρ1 _ (.ref C) (some d) σ (Ext.same s) (r1.same s) (e1.mono (Ext.same s)) ⟨C, rfl, hm, .inr ⟨d, _, rfl, upd_same, Paired.mapP (zip_rep rl) fun _ _ z => ⟨z.1, z.2.mono (Ext.same s)⟩⟩⟩
  · exact p1.elim
theorem xh_end (h : XH) (env : MEnv) (fs : List (Str × MI.D)) (S : Store) : xh h env fs S = .stuck ∨ ∃ d S', xh h env fs S = .ret d S' := by
  cases h with
  | retC f g xs =>
    simp only [xh]
    split
    · split
      · exact .inr ⟨_, _, rfl⟩
      · exact .inl rfl
    · exact .inl rfl
  | ret x =>
    simp only [xh]
    split
    · exact .inr ⟨_, _, rfl⟩
    · exact .inl rfl
  | retL xs =>
    simp only [xh]
    split
    · exact .inr ⟨_, _, rfl⟩
    · exact .inl rfl
theorem RelE.none {K : PySem.W.Frag} {hid : List Addr} {ρ : Rho} {env : MEnv} {i : Nat} {v : Option V} (h : RelE K hid ρ H σ env) : RelE K hid ρ H (σ.set i v) (env.set i none) := by
  refine ⟨by rw [List.length_set, List.length_set]; exact h.len, fun j d' hd => ?_⟩
  by_cases hj : i = j
  · subst hj
    by_cases hl : i < env.length
    · rw [List.getElem?_set_self hl] at hd; cases hd
    · rw [List.getElem?_eq_none (by rw [List.length_set]; omega)] at hd; cases hd
  · rw [List.getElem?_set_ne hj] at hd
    rw [List.getElem?_set_ne hj]
    exact h.at_ j d' hd
/-- what the clause wishes, from what the try says -/
theorem try_wish {b : CSs} {y : Str} {ms no : List Str} {io : Option Nat} {fl : List Str} {h : XH} {E : Addr} {Wc : WX}
    (hE : X.mg y = some (.ref E)) (h1 : ∀ c ∈ ms, ExmOk X.K X.mg c y true ∧ FldOk X.K X.mg c fl) (h2 : ∀ c ∈ no, ExmOk X.K X.mg c y false)
    (hw : tS X W (ex (.try_ b y ms no io fl h)) De σ H)
    (k : ∀ cls d σ' H', ((∃ hid ρ env c fs S, PySem.W.exmOne X.K cls (.ref E) = some true ∧ RelS X.K hid ρ H' X.mg S ∧ RelE X.K hid ρ H' σ' env ∧ ExcRep X.K X.mg hid ρ H' cls d c fs ∧ okN io env = true ∧ FldOk X.K X.mg c fl ∧ PostF X.K X.mg hid ρ H' (xh h (setN io env) fs S) De (fun _ _ _ _ => False)) ∨
      (PySem.W.exmOne X.K cls (.ref E) = some false ∧ W cls d σ' H')) → Wc cls d σ' H') : tS X Wc (exs b) De σ H := by
  obtain ⟨hid, ρ, env, S, r, re, p⟩ := hw
  have p' : PostF X.K X.mg hid ρ H (match exs b env S with
    | .ex c fs ρ' S' => if (ms.contains c && okN io ρ') = true then xh h (setN io ρ') fs S' else if no.contains c = true then .ex c fs ρ' S' else .stuck
    | r => r) De W := p
  refine ⟨hid, ρ, env, S, r, re, ?_⟩
  cases q : exs b env S with
  | nx env' S' => rw [q] at p'; exact p'
  | ret d S' => rw [q] at p'; exact p'
  | stuck => rw [q] at p'; exact p'
  | ex c fs env' S' =>
    rw [q] at p'
    intro ρ' H' cls d σ' e' r' re' x
    refine k cls d σ' H' ?_
    obtain ⟨C, hc, hm, hx⟩ := id x
    dsimp only at p'
    split at p'
    · rename_i hcn
      obtain ⟨g1, g2⟩ := Bool.and_eq_true_iff.mp hcn
      obtain ⟨⟨C', E', m1, m2, hb⟩, hf⟩ := h1 c (by simpa using g1)
      rw [hm] at m1; cases m1
      rw [hE] at m2; cases m2
      refine .inl ⟨hid, ρ', env', c, fs, S', by rw [hc]; exact hb, r', re', x, g2, hf, ?_⟩
      have p2 := PostF.ext e' p'
      rcases xh_end h (setN io env') fs S' with z | ⟨d0, S1, z⟩
      · rw [z] at p2; exact p2.elim
      · rw [z] at p2 ⊢; exact p2
    · split at p'
      · rename_i hcn
        obtain ⟨C', E', m1, m2, hb⟩ := h2 c (by simpa using hcn)
        rw [hm] at m1; cases m1
        rw [hE] at m2; cases m2
        exact .inr ⟨by rw [hc]; exact hb, p' ρ' H' cls d σ' e' r' re' x⟩
      · exact p'.elim
variable {N : List Str} {sc : Scope} {b : CSs} {y : Str} {ms no fl : List Str} {h : XH} {E : Addr} {body : List PySem.Stmt} {st : PySem.Stmt} {np pos pos' : Pos}
/-- try: .. except y as n: return .. -/
theorem s_tryA {i : Nat} {n : Str} (hN : X.N = N) (hsc : X.env.scope = sc) (nd : X.N.Nodup) (hs : X.stack = X.env :: X.outer) (hf : X.env.frame = some X.env.locals) (hi : X.N[i]? = some n) (hln : X.env.scope.names.lookup n = some .local) (hg : Gl X y) (hd : (y == ("__debug__" : Str)) = false) (tk : L2N.Takes X W)
    (hE : X.mg y = some (.ref E)) (h1 : ∀ c ∈ ms, ExmOk X.K X.mg c y true ∧ FldOk X.K X.mg c fl) (h2 : ∀ c ∈ no, ExmOk X.K X.mg c y false)
    (hb : ∀ (W : WX) (pn : List (Addr × Obj)) (xe : Value → Shared → Prop), L2N.Takes (X.tr pn xe) W → PassesOwn (model X.prog X.w) X.A X.env xe → PSs (X.tr pn xe) body (tS X W (exs b)))
    (hk : h.ok (HotOk X)) (hc : chkH N sc (some i) fl h st = true) : PS X (.Try body [.ExceptHandler (some (.Name y np)) (some n) [st] pos'] [] [] pos) (tS X W (ex (.try_ b y ms no (some i) fl h))) := by
  refine PS.imp (L2N.ps_try_as (c := .ref E) (tb := fun W => tS X W (exs b)) (ts := fun a cls d => tSeq (tXH X (some i) fl a cls d h) tNext) hs hf nd hi hln ⟨hg, hd, .inl hE⟩ tk hb fun a oe cls d pn hz hfs => pss_cons (ps_xh hN hsc hz hfs h hk hc) pss_nil) fun D σ H hw => ?_
  refine try_wish hE h1 h2 hw fun cls d σ' H' q => ?_
  rcases q with ⟨hid, ρ, env, c, fs, S, q1, q2, q3, q4, q5, q6, q7⟩ | ⟨q1, q2⟩
  · refine ⟨true, q1, fun _ a ha => ?_, fun z => by cases z⟩
    refine ⟨hid, ρ, setN (some i) env, S, c, fs, ⟨q2, RelE.none q3, fun j hj => ?_, q4⟩, q6, ?_⟩
    · cases hj
      have hl : i < σ'.length := by rw [q3.len]; exact of_decide_eq_true q5
      exact List.getElem?_set_self hl
    · rcases xh_end h (setN (some i) env) fs S with z | ⟨d0, S1, z⟩
      · rw [z] at q7; exact q7.elim
      · rw [z] at q7 ⊢; exact q7
  · exact ⟨false, q1, (fun z => by cases z), fun _ => q2⟩
/-- try: .. except y: return .. -/
theorem s_tryO (hN : X.N = N) (hsc : X.env.scope = sc) (hs : X.stack = X.env :: X.outer) (hf : X.env.frame = some X.env.locals) (hg : Gl X y) (hd : (y == ("__debug__" : Str)) = false) (tk : L2N.Takes X W)
    (hE : X.mg y = some (.ref E)) (h1 : ∀ c ∈ ms, ExmOk X.K X.mg c y true ∧ FldOk X.K X.mg c fl) (h2 : ∀ c ∈ no, ExmOk X.K X.mg c y false)
    (hb : ∀ (W : WX) (pn : List (Addr × Obj)) (xe : Value → Shared → Prop), L2N.Takes (X.tr pn xe) W → PassesOwn (model X.prog X.w) X.A X.env xe → PSs (X.tr pn xe) body (tS X W (exs b)))
    (hk : h.ok (HotOk X)) (hc : chkH N sc none fl h st = true) : PS X (.Try body [.ExceptHandler (some (.Name y np)) none [st] pos'] [] [] pos) (tS X W (ex (.try_ b y ms no none fl h))) := by
  refine PS.imp (L2N.ps_try_many (l := [(.ref E, fun a cls d => tSeq (tXH X none fl a cls d h) tNext)]) (tb := fun W => tS X W (exs b)) hs hf tk hb (.cons ⟨hg, hd, .inl hE⟩ (fun a oe cls d pn hz hfs => pss_cons (ps_xh hN hsc hz hfs h hk hc) pss_nil) .nil)) fun D σ H hw => ?_
  refine try_wish hE h1 h2 hw fun cls d σ' H' q => ?_
  rcases q with ⟨hid, ρ, env, c, fs, S, q1, q2, q3, q4, q5, q6, q7⟩ | ⟨q1, q2⟩
  · refine ⟨true, q1, fun _ a ha => ?_, fun z => by cases z⟩
    refine ⟨hid, ρ, env, S, c, fs, ⟨q2, q3, fun j hj => (by cases hj), q4⟩, q6, ?_⟩
    rcases xh_end h env fs S with z | ⟨d0, S1, z⟩
    · rw [show setN none env = env from rfl] at q7; rw [z] at q7; exact q7.elim
    · rw [show setN none env = env from rfl] at q7; rw [z] at q7 ⊢; exact q7
  · exact ⟨false, q1, (fun z => by cases z), fun _ => q2⟩
end
end MI
namespace MI
open PySem PySem.Spec L2
def bkS (sc : Scope) : ScopeKind := if sc.kind.isAnnotationScope then .function else sc.kind
def swB (sc scope : Scope) (t : Str) (p q : Pos) : Bool :=
  bkS sc == .function && sc.names.lookup t == some .local && p.line == q.line && !(scope.names.any fun (n, k) => n == t && (k == .local || k == .cell))
theorem swaps_dc {kx vx : PySem.Expr} {gens : List Comprehension} {scope : Scope} {lp p : Pos} {x : Str} {l : Nat} {env : Env} : swapsWith (.DictComp kx vx gens scope lp) (some (.Name x p)) l env = pure (swB env.scope scope x p lp) := rfl
def isDC : CE → Bool
  | .dcomp _ _ _ _ _ _ => true
  | _ => false
theorem swaps_lc {elt : PySem.Expr} {gens : List Comprehension} {scope : Scope} {lp p : Pos} {x : Str} {l : Nat} {env : Env} : swapsWith (.ListComp elt gens scope lp) (some (.Name x p)) l env = pure (swB env.scope scope x p lp) := rfl
def isLC : CE → Bool
  | .new _ (.comp _ _ _ _ _) => true
  | _ => false
def locL (sc : Scope) (x : Str) : Bool := match sc.names.lookup x with | some .local => true | _ => false
def asgB (sc : Scope) (c : CE) (x : Str) (p : Pos) (e : PySem.Expr) : Bool :=
  match e with
  | .ListComp _ _ scope lp => if swB sc scope x p lp then isLC c && locL sc x else true
  | .SetComp _ _ _ _ => false
  | .DictComp _ _ _ scope lp => if swB sc scope x p lp then isDC c && locL sc x else true
  | _ => true
/-- both names of a pair are stored, the second first -/
def parB (sc : Scope) (x y : Str) (px py : Pos) (ea eb : PySem.Expr) : Bool :=
  ((bkS sc == .function) && (px.line == py.line)) && ((!(x == y) && !([ea, eb].all (foldedForSure 8))) && !([ea, eb].all (constantsAlone 8)))
mutual
def chkS (N : List Str) (sc : Scope) (fnB : Str → Bool) : CS → PySem.Stmt → Bool
  | .asg t c, st => (match t with
    | .name i => (match st with
      | .Assign [.Name x p] e _ => (nameAt N sc fnB i (.Name x p) && chkE N sc c e) && asgB sc c x p e
      | _ => false)
    | .tup is => (match st with
      | .Assign [.Tuple es k tp] e _ => (namesAt N sc fnB is es && chkE N sc c e) && (!isComp e && !isTup e)
      | _ => false))
  | .par i j a b, st => (match st with
    | .Assign [.Tuple [.Name x px, .Name y py] _ _] (.Tuple [ea, eb] _ _) _ => ((decide (N[i]? = some x) && decide (N[j]? = some y)) && (decide (i ≠ j) && (locL sc x && locL sc y))) && (((chkE N sc a ea && chkE N sc b eb) && (!isStar ea && !isStar eb)) && parB sc x y px py ea eb)
    | _ => false)
  | .put o i e, st => (match st with
    | .Assign [.Subscript eo ei _] ee _ => ((chkE N sc o eo && chkE N sc i ei) && chkE N sc e ee) && ((!isComp ee && !isTup ee) && !isSlice ei)
    | _ => false)
  | .putp o i p j a b, st => (match st with
    | .Assign [.Tuple [.Subscript eo ei _, .Subscript ep ej _] _ _] (.Tuple [ea, eb] _ _) _ => (((chkE N sc o eo && chkE N sc i ei) && (chkE N sc p ep && chkE N sc j ej)) && ((chkE N sc a ea && chkE N sc b eb) && (!isStar ea && !isStar eb))) && (!isSlice ei && !isSlice ej)
    | _ => false)
  | .aug i e, st => (match st with
    | .AugAssign t .Add ee _ => nameAt N sc fnB i t && chkE N sc e ee
    | _ => false)
  | .drop e, st => (match st with
    | .Expr ee _ => chkE N sc e ee && !isComp ee
    | _ => false)
  | .app o e, st => (match st with
    | .Expr (.Call (.Attribute eo at_ apos) [ee] [] cpos) _ => ((decide (at_ = ("append" : Str)) && chkE N sc o eo) && chkE N sc e ee) && ((!isStar ee && !isCall eo) && (apos.endLine == cpos.line))
    | _ => false)
  | .rem o e, st => (match st with
    | .Expr (.Call (.Attribute eo at_ apos) [ee] [] cpos) _ => ((decide (at_ = ("remove" : Str)) && chkE N sc o eo) && chkE N sc e ee) && ((!isStar ee && !isCall eo) && (apos.endLine == cpos.line))
    | _ => false)
  | .ifs c a b, st => (match st with
    | .If ec as bs _ => (c.tst && chkE N sc c ec) && (chkSs N sc fnB a as && chkSs N sc fnB b bs)
    | _ => false)
  | .for_ t it b, st => (match st with
    | .For tg iter body [] _ => (chkI N sc it tg iter && tgB N sc fnB t tg) && (chkSs N sc fnB b body && notSet iter)
    | _ => false)
  | .while_ _ c b, st => (match st with
    | .While ec body [] _ => (c.tst && chkE N sc c ec) && chkSs N sc fnB b body
    | _ => false)
  | .ret e, st => (match st with
    | .Return (some ee) _ => chkE N sc e ee
    | _ => false)
  | .retN, st => (match st with
    | .Return none _ => true
    | _ => false)
  | .pass, st => (match st with
    | .Pass _ => true
    | .Expr (.Constant (.str _) _ _) _ => true
    | _ => false)
  | .fail, _ => true
  | .rais c fs es, st => (match st with
    | .Raise (some (.Call (.Name x _) (l :: ls) [] _)) none _ => (decide (x = c) && (glB sc c && nmOk c)) && (chkEs N sc es (l :: ls) && ((l :: ls).all fun e => !isStar e))
    | _ => false)
  | .try_ b y ms no i fl h, st => (match st with
    | .Try body [.ExceptHandler (some (.Name x _)) nm [hs] _] [] [] _ => (decide (x = y) && (glB sc y && nmOk y)) && ((chkSs N sc fnB b body && !ms.isEmpty) && ((match i with
      | some i => (match nm with | some n => decide (N[i]? = some n) && locL sc n | none => false)
      | none => (match nm with | none => true | some _ => false)) && chkH N sc i fl h hs))
    | _ => false)
def chkSs (N : List Str) (sc : Scope) (fnB : Str → Bool) : CSs → List PySem.Stmt → Bool
  | .nil, sts => (match sts with | [] => true | _ => false)
  | .cons s ss, sts => (match sts with | st :: sts => chkS N sc fnB s st && chkSs N sc fnB ss sts | _ => false)
  | .frz _ ss, sts => chkSs N sc fnB ss sts
end
def eachS (p : Str → Prop) : List Str → Prop
  | [] => True
  | c :: r => p c ∧ eachS p r
theorem eachS_mem {p : Str → Prop} : ∀ {l : List Str}, eachS p l → ∀ c ∈ l, p c
  | [], _, c, h => by cases h
  | x :: l, g, c, h => by
    rcases List.mem_cons.mp h with rfl | h
    · exact g.1
    · exact eachS_mem g.2 c h
mutual
def CS.good (G : Str → Fn → Prop) (GD : Str → D → Prop) (GX : Str → List Str → Prop) (GE : Str → Str → Bool → Prop) (GF : Str → List Str → Prop) (GH : Str → Fn → Prop) : CS → Prop
  | .asg _ e => e.good G GD
  | .par _ _ a b => a.good G GD ∧ b.good G GD
  | .put o i e => o.good G GD ∧ i.good G GD ∧ e.good G GD
  | .putp o i p j a b => (o.good G GD ∧ i.good G GD) ∧ (p.good G GD ∧ j.good G GD) ∧ a.good G GD ∧ b.good G GD
  | .aug _ e => e.good G GD
  | .drop e => e.good G GD
  | .app o e => o.good G GD ∧ e.good G GD
  | .rem o e => o.good G GD ∧ e.good G GD
  | .ifs c a b => c.good G GD ∧ a.good G GD GX GE GF GH ∧ b.good G GD GX GE GF GH
  | .for_ _ it b => it.good G GD ∧ b.good G GD GX GE GF GH
  | .while_ _ c b => c.good G GD ∧ b.good G GD GX GE GF GH
  | .ret e => e.good G GD
  | .retN => True
  | .pass => True
  | .fail => True
  | .rais c fs es => GX c fs ∧ es.good G GD
  | .try_ b y ms no _ fl h => (b.good G GD GX GE GF GH ∧ h.ok GH) ∧ (eachS (fun c => GE c y true ∧ GF c fl) ms ∧ eachS (fun c => GE c y false) no)
def CSs.good (G : Str → Fn → Prop) (GD : Str → D → Prop) (GX : Str → List Str → Prop) (GE : Str → Str → Bool → Prop) (GF : Str → List Str → Prop) (GH : Str → Fn → Prop) : CSs → Prop
  | .nil => True
  | .cons s ss => s.good G GD GX GE GF GH ∧ ss.good G GD GX GE GF GH
  | .frz _ ss => ss.good G GD GX GE GF GH
end
/-- what a statement leans on -/
structure CtxS (G : Str → Fn → Prop) (GD : Str → D → Prop) (GX : Str → List Str → Prop) (GE : Str → Str → Bool → Prop) (GF : Str → List Str → Prop) (GH : Str → Fn → Prop) (N : List Str) (sc : Scope) (fnB : Str → Bool) (X : Cx) : Prop where
  c : Ctx G GD N sc fnB X
  stk : X.stack = X.env :: X.outer
  frm : X.env.frame = some X.env.locals
  rm : Room 2 X.A
  exc : ∀ c fs, GX c fs → XcOk X.prog X.K X.mg c fs
  exm : ∀ c y b, GE c y b → ExmOk X.K X.mg c y b
  fld : ∀ c fl, GF c fl → FldOk X.K X.mg c fl
  hot : ∀ x g, GH x g → HotOk X x g
theorem CtxS.tr {G : Str → Fn → Prop} {GD : Str → D → Prop} {GX : Str → List Str → Prop} {GE : Str → Str → Bool → Prop} {GF : Str → List Str → Prop} {GH : Str → Fn → Prop} {N : List Str} {sc : Scope} {fnB : Str → Bool} {X : Cx} (C : CtxS G GD GX GE GF GH N sc fnB X) (pn : List (Addr × Obj)) (xe : Value → Shared → Prop) : CtxS G GD GX GE GF GH N sc fnB (X.tr pn xe) :=
  ⟨⟨C.c.n, C.c.nd, C.c.sc, C.c.calm, C.c.hu, C.c.fn, C.c.call, C.c.glob, C.c.bi⟩, C.stk, C.frm, C.rm, C.exc, C.exm, C.fld, C.hot⟩
section
variable {G : Str → Fn → Prop} {GD : Str → D → Prop} {N : List Str} {sc : Scope} {fnB : Str → Bool} {X : Cx} {W : WX}
theorem snd_comp {own t it c elt m el tg iter ifs scope pos} (C : Ctx G GD N sc fnB X) (tk : L2N.Takes X W) (h : chkE N sc (.new m (.comp own t it c elt)) (.ListComp el [⟨tg, iter, ifs, 0⟩] scope pos) = true) (g : CE.good G GD (.new m (.comp own t it c elt))) :
    Comp X scope own t it c elt tg iter el ifs := by
  have h : chkL N sc (.comp own t it c elt) (.ListComp el [⟨tg, iter, ifs, 0⟩] scope pos) = true := h
  have g : CL.good G GD (.comp own t it c elt) := g
  unfold chkL at h
  obtain ⟨h1, h2⟩ := and2 h
  obtain ⟨h3, h4⟩ := and2 h1
  obtain ⟨h5, h6⟩ := and2 h3
  obtain ⟨h7, h8⟩ := and2 h4
  obtain ⟨h9, h10⟩ := and2 h2
  obtain ⟨h11, h12⟩ := and2 h9
  refine ⟨C.calm, by rw [C.n]; exact C.nd, fun W tk => snd_I it C tk h7 g.1, by rw [C.n, C.sc]; exact blkOk_by h5, fun i hi => ?_, fun s H A cl fp => tg_ok (C.blk (own := own) s H A cl fp) h8,
        fun s H A cl fp => snd_C c (C.blk (own := own) s H A cl fp) takesN h11 g.2.1, fun s H A cl fp => (snd_E elt (C.blk (own := own) s H A cl fp) takesN h12 g.2.2).pe, set_fold h10 _⟩
  have := List.all_eq_true.mp h6 i hi
  exact of_decide_eq_true this
theorem snd_dcomp {own t it c k v kx vx tg iter ifs scope pos} (C : Ctx G GD N sc fnB X) (tk : L2N.Takes X W) (h : chkE N sc (.dcomp own t it c k v) (.DictComp kx vx [⟨tg, iter, ifs, 0⟩] scope pos) = true) (g : CE.good G GD (.dcomp own t it c k v)) :
    CompD X scope own t it c k v tg iter kx vx ifs := by
  unfold chkE at h
  obtain ⟨h1, h2⟩ := and2 h
  obtain ⟨h3, h4⟩ := and2 h1
  obtain ⟨h5, h6⟩ := and2 h3
  obtain ⟨h7, h8⟩ := and2 h4
  obtain ⟨h9, h10⟩ := and2 h2
  obtain ⟨h11, h12⟩ := and2 h9
  obtain ⟨h13, h14⟩ := and2 h11
  refine ⟨C.calm, by rw [C.n]; exact C.nd, fun W tk => snd_I it C tk h7 g.1, by rw [C.n, C.sc]; exact blkOk_by h5, fun i hi => ?_, fun s H A cl fp => tg_ok (C.blk (own := own) s H A cl fp) h8,
        fun s H A cl fp => snd_C c (C.blk (own := own) s H A cl fp) takesN h13 g.2.1, fun s H A cl fp => (snd_E k (C.blk (own := own) s H A cl fp) takesN h14 g.2.2.1).pe, fun s H A cl fp => (snd_E v (C.blk (own := own) s H A cl fp) takesN h12 g.2.2.2).pe, set_fold h10 _⟩
  have := List.all_eq_true.mp h6 i hi
  exact of_decide_eq_true this
theorem locL_ok {x : Str} (C : Ctx G GD N sc fnB X) (h : locL sc x = true) : X.env.scope.names.lookup x = some .local := by
  unfold locL at h
  rw [C.sc]
  split at h
  · assumption
  · cases h
theorem par_ok {x y : Str} {px py pt pt2 : Pos} {kt k2 : Nat} {ea eb : PySem.Expr} {env : Env} (hs : env.scope = sc) (hx : env.scope.names.lookup x = some .local) (hy : env.scope.names.lookup y = some .local) (sa : isStar ea = false) (sb : isStar eb = false) (h : parB sc x y px py ea eb = true) :
    swappedStores [.Tuple [.Name x px, .Name y py] kt pt] (.Tuple [ea, eb] k2 pt2) env = pure (some [x, y]) := by
  unfold parB at h
  obtain ⟨h1, h2⟩ := and2 h
  obtain ⟨h3, h4⟩ := and2 h1
  obtain ⟨h5, h6⟩ := and2 h2
  obtain ⟨h7, h8⟩ := and2 h5
  have hb : env.blockKind = .function := by
    have : bkS env.scope = .function := by rw [hs]; exact beq_iff_eq.mp h3
    exact this
  have hl : px.line = py.line := beq_iff_eq.mp h4
  have hne : (x == y) = false := by simpa using h7
  have hne' : x ≠ y := by simpa using hne
  have h8' : ([ea, eb].all (foldedForSure 8)) = false := by simpa only [Bool.not_eq_true'] using h8
  have h6' : ([ea, eb].all (constantsAlone 8)) = false := by simpa only [Bool.not_eq_true'] using h6
  have st : ([ea, eb].any fun | .Starred .. => true | _ => false) = false := by
    cases ea <;> first | (cases sa; done) | (cases eb <;> first | (cases sb; done) | rfl)
  have kx : (env.kindOf x == some NameKind.local) = true := by
    show (env.scope.names.lookup x == _) = true
    rw [hx]; rfl
  have ky : (env.kindOf y == some NameKind.local) = true := by
    show (env.scope.names.lookup y == _) = true
    rw [hy]; rfl
  have q : List.eraseDups [x, y] = [x, y] := by
    have hyx : (y == x) = false := by
      simpa using fun e : y = x => hne' e.symm
    simp [List.eraseDups_cons, hyx]
  unfold swappedStores
  simp only [PySem.Expr.pos, List.length_cons, List.length_nil, hb, List.head?_cons, Option.map_some, Option.getD_some, List.filterMap_cons, kx, ky, hl, List.filterMap_nil, q, beq_self_eq_true, Bool.and_true, if_true]
  simp only [h8', h6']
  rw [if_neg (by decide), if_neg (by rw [Bool.not_eq_true]; exact st), if_neg (by decide)]
  rfl
end
section
variable {G : Str → Fn → Prop} {GD : Str → D → Prop} {GX : Str → List Str → Prop} {GE : Str → Str → Bool → Prop} {GF : Str → List Str → Prop} {GH : Str → Fn → Prop}
mutual
theorem snd_S : ∀ (s : CS) {N : List Str} {sc : Scope} {fnB : Str → Bool} {X : Cx} {W : WX} {st : PySem.Stmt}, CtxS G GD GX GE GF GH N sc fnB X → L2N.Takes X W → PassesOwn (model X.prog X.w) X.A X.env X.xe → chkS N sc fnB s st = true → s.good G GD GX GE GF GH → PS X st (tS X W (ex s))
  | .asg t c, N, sc, fnB, X, W, st, C, tk, po, h, g => by
    have hN : X.N.Nodup := by rw [C.c.n]; exact C.c.nd
    cases t with
    | name i =>
      unfold chkS at h
      dsimp only at h
      split at h
      · rename_i x p e pos
        obtain ⟨h1, h2⟩ := and2 h
        obtain ⟨h3, h4⟩ := and2 h1
        obtain ⟨x', p', e', q1, q2, q3⟩ := nameAt_ok C.c h3
        cases e'
        have he := (snd_E c C.c tk h4 g).pe
        by_cases hc : isComp e = false
        · exact s_set hN q1 q2 q3 he (swaps_no hc)
        · cases e with
          | ListComp elt gens scope lp =>
            by_cases hsw : swB sc scope x p lp = true
            · have h2' : (isLC c && locL sc x) = true := by
                have h2 : (if swB sc scope x p lp = true then isLC c && locL sc x else true) = true := h2
                rw [if_pos hsw] at h2
                exact h2
              obtain ⟨h5, h6⟩ := and2 h2'
              cases c with
              | new m l =>
                cases l with
                | comp own t it co ce =>
                  have h4' : chkL N sc (.comp own t it co ce) (.ListComp elt gens scope lp) = true := h4
                  unfold chkL at h4'
                  split at h4'
                  · rename_i hh
                    cases hh
                    refine s_setC tk q1 (locL_ok C.c h6) ?_ (snd_comp C.c tk h4 g)
                    rw [swaps_lc, C.c.sc, hsw]
                  · cases h4'
                | _ => cases h5
              | _ => cases h5
            · refine s_set hN q1 q2 q3 he ?_
              rw [swaps_lc, C.c.sc]
              rw [show swB sc scope x p lp = false by simpa using hsw]
          | SetComp _ _ _ _ => cases h2
          | DictComp kx vx gens scope lp =>
            by_cases hsw : swB sc scope x p lp = true
            · have h2' : (isDC c && locL sc x) = true := by
                have h2 : (if swB sc scope x p lp = true then isDC c && locL sc x else true) = true := h2
                rw [if_pos hsw] at h2
                exact h2
              obtain ⟨h5, h6⟩ := and2 h2'
              cases c with
              | dcomp own t it co kk vv =>
                have h4' : chkE N sc (.dcomp own t it co kk vv) (.DictComp kx vx gens scope lp) = true := h4
                unfold chkE at h4'
                split at h4'
                · rename_i hh
                  cases hh
                  refine s_setD tk q1 (locL_ok C.c h6) ?_ (snd_dcomp C.c tk h4 g)
                  rw [swaps_dc, C.c.sc, hsw]
                · cases h4'
              | _ => cases h5
            · refine s_set hN q1 q2 q3 he ?_
              rw [swaps_dc, C.c.sc]
              rw [show swB sc scope x p lp = false by simpa using hsw]
          | _ => exact absurd rfl hc
      · cases h
    | tup is =>
      unfold chkS at h
      dsimp only at h
      split at h
      · rename_i es k tp e pos
        obtain ⟨h1, h2⟩ := and2 h
        obtain ⟨h3, h4⟩ := and2 h1
        obtain ⟨h5, h6⟩ := and2 h2
        exact s_unpack (tg_ok (t := .tup is) C.c (show tgB N sc fnB (.tup is) (.Tuple es k tp) = true from h3)) (snd_E c C.c tk h4 g).pe (by simpa using h5) (by simpa using h6)
      · cases h
  | .par i j a b, N, sc, fnB, X, W, st, C, tk, po, h, g => by
    unfold chkS at h
    split at h
    · rename_i x px y py k0 p0 ea eb k1 p1 p2
      obtain ⟨h1, h2⟩ := and2 h
      obtain ⟨h3, h4⟩ := and2 h1
      obtain ⟨h5, h6⟩ := and2 h2
      obtain ⟨h7, h8⟩ := and2 h3
      obtain ⟨h9, h10⟩ := and2 h4
      obtain ⟨h11, h12⟩ := and2 h10
      obtain ⟨h13, h14⟩ := and2 h5
      obtain ⟨h15, h16⟩ := and2 h13
      obtain ⟨h17, h18⟩ := and2 h14
      have sa : isStar ea = false := by simpa using h17
      have sb : isStar eb = false := by simpa using h18
      exact s_par C.c.calm (by rw [C.c.n]; exact C.c.nd) (by rw [C.c.n]; exact of_decide_eq_true h7) (by rw [C.c.n]; exact of_decide_eq_true h8) (of_decide_eq_true h9) (locL_ok C.c h11) (locL_ok C.c h12)
        (snd_E a C.c tk h15 g.1).pe (snd_E b C.c tk h16 g.2).pe sa sb (par_ok C.c.sc (locL_ok C.c h11) (locL_ok C.c h12) sa sb h6)
    · cases h
  | .put o i e, N, sc, fnB, X, W, st, C, tk, po, h, g => by
    unfold chkS at h
    split at h
    · obtain ⟨h1, h2⟩ := and2 h
      obtain ⟨h3, h4⟩ := and2 h1
      obtain ⟨h5, h6⟩ := and2 h2
      obtain ⟨h7, h8⟩ := and2 h3
      obtain ⟨h9, h10⟩ := and2 h5
      exact s_put C.c.hu (snd_E o C.c tk h7 g.1).pe (snd_E i C.c tk h8 g.2.1).pe (snd_E e C.c tk h4 g.2.2).pe (by simpa using h9) (by simpa using h10) (by simpa using h6)
    · cases h
  | .putp o i p j a b, N, sc, fnB, X, W, st, C, tk, po, h, g => by
    unfold chkS at h
    split at h
    · obtain ⟨h1, h2⟩ := and2 h
      obtain ⟨h3, h4⟩ := and2 h1
      obtain ⟨h5, h6⟩ := and2 h3
      obtain ⟨h7, h8⟩ := and2 h5
      obtain ⟨h9, h10⟩ := and2 h6
      obtain ⟨h11, h12⟩ := and2 h4
      obtain ⟨h13, h14⟩ := and2 h11
      obtain ⟨h15, h16⟩ := and2 h12
      obtain ⟨h17, h18⟩ := and2 h2
      exact s_putp C.c.calm C.c.hu (snd_E o C.c tk h7 g.1.1).pe (snd_E i C.c tk h8 g.1.2).pe (snd_E p C.c tk h9 g.2.1.1).pe (snd_E j C.c tk h10 g.2.1.2).pe (snd_E a C.c tk h13 g.2.2.1).pe (snd_E b C.c tk h14 g.2.2.2).pe
        (by simpa using h15) (by simpa using h16) (by simpa using h17) (by simpa using h18)
    · cases h
  | .aug i e, N, sc, fnB, X, W, st, C, tk, po, h, g => by
    unfold chkS at h
    split at h
    · obtain ⟨h1, h2⟩ := and2 h
      obtain ⟨x', p', rfl, q1, q2, q3⟩ := nameAt_ok C.c h1
      exact s_aug (by rw [C.c.n]; exact C.c.nd) q1 q2 q3 (snd_E e C.c tk h2 g).pe
    · cases h
  | .drop e, N, sc, fnB, X, W, st, C, tk, po, h, g => by
    unfold chkS at h
    split at h
    · obtain ⟨h1, h2⟩ := and2 h
      exact s_drop (snd_E e C.c tk h1 g).pe (by simpa using h2)
    · cases h
  | .app o e, N, sc, fnB, X, W, st, C, tk, po, h, g => by
    unfold chkS at h
    split at h
    · obtain ⟨h1, h2⟩ := and2 h
      obtain ⟨h3, h4⟩ := and2 h1
      obtain ⟨h5, h6⟩ := and2 h2
      obtain ⟨h7, h8⟩ := and2 h3
      obtain ⟨h9, h10⟩ := and2 h5
      have q := of_decide_eq_true h7
      subst q
      exact s_app (snd_E o C.c tk h8 g.1).pe (snd_E e C.c tk h4 g.2).pe (by simpa using h9) (by simpa using h10) h6
    · cases h
  | .rem o e, N, sc, fnB, X, W, st, C, tk, po, h, g => by
    unfold chkS at h
    split at h
    · obtain ⟨h1, h2⟩ := and2 h
      obtain ⟨h3, h4⟩ := and2 h1
      obtain ⟨h5, h6⟩ := and2 h2
      obtain ⟨h7, h8⟩ := and2 h3
      obtain ⟨h9, h10⟩ := and2 h5
      have q := of_decide_eq_true h7
      subst q
      exact s_rem C.c.hu (snd_E o C.c tk h8 g.1).pe (snd_E e C.c tk h4 g.2).pe (by simpa using h9) (by simpa using h10) h6
    · cases h
  | .ifs c a b, N, sc, fnB, X, W, st, C, tk, po, h, g => by
    unfold chkS at h
    split at h
    · obtain ⟨h1, h2⟩ := and2 h
      obtain ⟨h3, h4⟩ := and2 h1
      obtain ⟨h5, h6⟩ := and2 h2
      exact s_ifs ((snd_E c C.c tk h4 g.1).pt h3) (snd_Ss a C tk po h5 g.2.1) (snd_Ss b C tk po h6 g.2.2)
    · cases h
  | .for_ t it b, N, sc, fnB, X, W, st, C, tk, po, h, g => by
    unfold chkS at h
    split at h
    · obtain ⟨h1, h2⟩ := and2 h
      obtain ⟨h3, h4⟩ := and2 h1
      obtain ⟨h5, h6⟩ := and2 h2
      exact s_for po C.c.calm (snd_I it C.c tk h3 g.1) (tg_ok C.c h4) (snd_Ss b C tk po h5 g.2) (set_fold h6 _)
    · cases h
  | .while_ n c b, N, sc, fnB, X, W, st, C, tk, po, h, g => by
    unfold chkS at h
    split at h
    · obtain ⟨h1, h2⟩ := and2 h
      obtain ⟨h3, h4⟩ := and2 h1
      exact s_while po ((snd_E c C.c tk h4 g.1).pt h3) (snd_Ss b C tk po h2 g.2)
    · cases h
  | .ret e, N, sc, fnB, X, W, st, C, tk, po, h, g => by
    unfold chkS at h
    split at h
    · exact s_ret (snd_E e C.c tk h g).pe
    · cases h
  | .retN, N, sc, fnB, X, W, st, C, tk, po, h, g => by
    unfold chkS at h
    split at h
    · exact s_retN
    · cases h
  | .pass, N, sc, fnB, X, W, st, C, tk, po, h, g => by
    unfold chkS at h
    split at h
    · exact s_pass
    · exact s_doc
    · cases h
  | .fail, N, sc, fnB, X, W, st, C, tk, po, h, g => ⟨fun pins s σ H D I hw => by
    obtain ⟨hid, ρ, env, S, r, re, p⟩ := hw
    exact (show False from p).elim⟩
  | .rais c fs es, N, sc, fnB, X, W, st, C, tk, po, h, g => by
    unfold chkS at h
    split at h
    · obtain ⟨h1, h2⟩ := and2 h
      obtain ⟨h3, h4⟩ := and2 h1
      obtain ⟨h5, h6⟩ := and2 h4
      obtain ⟨h7, h8⟩ := and2 h2
      have h3 := of_decide_eq_true h3
      subst h3
      exact s_rais (C.exc _ _ g.1) C.c.calm tk (C.c.bi "super" (by decide)) C.rm ((snd_Es es C.c tk h7 g.2).pa h8) (C.c.gl h5) (nm_db h6) h8
    · cases h
  | .try_ b y ms no i fl h0, N, sc, fnB, X, W, st, C, tk, po, h, g => by
    unfold chkS at h
    split at h
    · obtain ⟨h1, h2⟩ := and2 h
      obtain ⟨h3, h4⟩ := and2 h1
      obtain ⟨h5, h6⟩ := and2 h4
      obtain ⟨h7, h8⟩ := and2 h2
      obtain ⟨h9, h10⟩ := and2 h7
      obtain ⟨h11, h12⟩ := and2 h8
      have h3 := of_decide_eq_true h3
      subst h3
      have g1 : ∀ c ∈ ms, ExmOk X.K X.mg c _ true ∧ FldOk X.K X.mg c fl := fun c hc => ⟨C.exm _ _ _ (eachS_mem g.2.1 c hc).1, C.fld _ _ (eachS_mem g.2.1 c hc).2⟩
      have g2 : ∀ c ∈ no, ExmOk X.K X.mg c _ false := fun c hc => C.exm _ _ _ (eachS_mem g.2.2 c hc)
      have hb : ∀ (W : WX) (pn : List (Addr × Obj)) (xe : Value → Shared → Prop), L2N.Takes (X.tr pn xe) W → PassesOwn (model X.prog X.w) X.A X.env xe → PSs (X.tr pn xe) _ (tS X W (exs b)) := fun W' pn xe tk' po' => snd_Ss b (C.tr pn xe) tk' po' h9 g.1.1
      have hk : h0.ok (HotOk X) := by
        have g3 := g.1.2
        cases h0 with
        | retC f g xs => exact C.hot _ _ g3
        | _ => exact True.intro
      cases ms with
      | nil => cases h10
      | cons c0 ms =>
        obtain ⟨⟨_, E, _, hE, _⟩, _⟩ := g1 c0 List.mem_cons_self
        cases i with
        | none =>
          dsimp only at h11
          split at h11
          · exact s_tryO C.c.n C.c.sc C.stk C.frm (C.c.gl h5) (nm_db h6) tk hE g1 g2 hb hk h12
          · cases h11
        | some i =>
          dsimp only at h11
          split at h11
          · obtain ⟨q1, q2⟩ := and2 h11
            exact s_tryA C.c.n C.c.sc (by rw [C.c.n]; exact C.c.nd) C.stk C.frm (by rw [C.c.n]; exact of_decide_eq_true q1) (locL_ok C.c q2) (C.c.gl h5) (nm_db h6) tk hE g1 g2 hb hk h12
          · cases h11
    · cases h
theorem snd_Ss : ∀ (ss : CSs) {N : List Str} {sc : Scope} {fnB : Str → Bool} {X : Cx} {W : WX} {sts : List PySem.Stmt}, CtxS G GD GX GE GF GH N sc fnB X → L2N.Takes X W → PassesOwn (model X.prog X.w) X.A X.env X.xe → chkSs N sc fnB ss sts = true → ss.good G GD GX GE GF GH → PSs X sts (tS X W (exs ss))
  | .nil, N, sc, fnB, X, W, sts, C, tk, po, h, g => by
    unfold chkSs at h
    split at h
    · exact b_nil
    · cases h
  | .cons s ss, N, sc, fnB, X, W, sts, C, tk, po, h, g => by
    unfold chkSs at h
    split at h
    · obtain ⟨h1, h2⟩ := and2 h
      exact b_cons (snd_S s C tk po h1 g.1) (snd_Ss ss C tk po h2 g.2)
    · cases h
  | .frz i ss, N, sc, fnB, X, W, sts, C, tk, po, h, g => b_frz (snd_Ss ss C tk po (show chkSs N sc fnB ss sts = true from h) g)
end
end
end MI
namespace MI
open PySem PySem.Spec L2
/-! ### a def by its text -/
def GlobOk (K : PySem.W.Frag) (mg : Str → Option Value) (x : Str) (d : D) : Prop := ∃ u v, mg x = some u ∧ RelV v u ∧ ∀ hid ρ H, Rep K hid ρ H v d
section
variable {P : Program} {w : World} {K : PySem.W.Frag} {mg : Str → Option Value} {base : Heap}
theorem CalOk.up {lv lv' : Nat} {x : Str} {g : Fn} (C : CalOk P w K mg base lv x g) (h : lv ≤ lv') : CalOk P w K mg base lv' x g := by
  obtain ⟨k, f, fd, ps, h1, h2, h3, h4, h5⟩ := C.ex
  exact ⟨k, f, fd, ps, h1, h2, h3, h4, Nat.le_trans h5 h⟩
open PyProof.Rows in
theorem ctx_of {lv : Nat} {N : List Str} {qual : Str} {sc : Scope} {f : Addr} {cdv : Value} {A : Around} {outer : List Env} {s : Shared} {H : Hp} {E : XK} {GD : Str → D → Prop} (nd : N.Nodup) (hb : ∀ x, x ∈ biNames → mg x = none) (hG : ∀ x d, GD x d → GlobOk K mg x d)
    (hr : Room (lv + 2) (A.deeper (envOfC qual sc s.heap.objs.size f cdv))) :
    CtxS (CalOk P w K mg base lv) GD (XcOk P K mg) (ExmOk K mg) (FldOk K mg) (CalH P w K mg base lv) N sc (fun _ => true) (cxOf (L2N.CX P w) P w K mg base N qual sc f cdv A outer s H E) :=
  ⟨⟨rfl, nd, rfl, rfl, by have := hr.un; show (A.deeper (envOfC qual sc s.heap.objs.size f cdv)).units + 65 < _; omega, fun _ _ => rfl, fun x g h => ⟨lv, h, hr⟩, fun x d h => hG x d h, hb⟩,
    rfl, rfl, hr.mono (Nat.le_add_left 2 lv), fun _ _ h => h, fun _ _ _ h => h, fun _ _ h => h, fun x g h => ⟨lv, h, L2H.roomH_of (hr.mono (Nat.le_add_right lv 2))⟩⟩
theorem body_ok {x qual : Str} {st : PySem.Stmt} {f : Addr} {fd : FuncData} {N ps : List Str} {lv : Nat} {b : CSs} {GD : Str → D → Prop} {kws : List (Str × V)} {dvs : List V} (F : FunD K x qual (defArgs st) (defBody st) (defScope st) dvs kws f fd) (S : FnScope N ps (defScope st)) (hb : ∀ x, x ∈ biNames → mg x = none) (hG : ∀ x d, GD x d → GlobOk K mg x d)
    (hc : chkSs N (defScope st) (fun _ => true) b (defBody st) = true) (hg : b.good (CalOk P w K mg base lv) GD (XcOk P K mg) (ExmOk K mg) (FldOk K mg) (CalH P w K mg base lv)) : FnOk P w K mg base (L2N.CX P w) (lv + 3) f fd ps (spOf K mg (fnOf ps.length N.length b)) :=
  fn_ok F S fun cdv A outer s H E hr => snd_Ss b (ctx_of S.nd hb hG hr) (L2N.takes_of rfl rfl rfl rfl) (passes_of rfl) hc hg
/-- what is known of a def -/
structure DefK (K : PySem.W.Frag) (mg : Str → Option Value) (x : Str) (st : PySem.Stmt) (ps : List Str) (f : Addr) (fd : FuncData) : Prop where
  fn : FunD K x x (defArgs st) (defBody st) (defScope st) [] [] f fd
  mgf : mg x = some (.ref f)
  bd : Binds K fd ps []
theorem def_ok {x : Str} {st : PySem.Stmt} {f : Addr} {fd : FuncData} {N ps : List Str} {lv : Nat} {b : CSs} {GD : Str → D → Prop} (F : DefK K mg x st ps f fd) (S : FnScope N ps (defScope st)) (hb : ∀ x, x ∈ biNames → mg x = none) (hG : ∀ x d, GD x d → GlobOk K mg x d)
    (hc : chkSs N (defScope st) (fun _ => true) b (defBody st) = true) (hg : b.good (CalOk P w K mg base lv) GD (XcOk P K mg) (ExmOk K mg) (FldOk K mg) (CalH P w K mg base lv)) : CalOk P w K mg base (lv + 3) x (fnOf ps.length N.length b) :=
  ⟨lv + 3, f, fd, ps, body_ok F.fn S hb hG hc hg, F.mgf, F.fn.kp, F.bd, Nat.le_refl _⟩
theorem CalH.up {lv lv' : Nat} {x : Str} {g : Fn} (C : CalH P w K mg base lv x g) (h : lv ≤ lv') : CalH P w K mg base lv' x g := by
  obtain ⟨k, f, fd, ps, h1, h2, h3, h4, h5⟩ := C.ex
  exact ⟨k, f, fd, ps, h1, h2, h3, h4, Nat.le_trans h5 h⟩
theorem def_okH {x : Str} {st : PySem.Stmt} {f : Addr} {fd : FuncData} {N ps : List Str} {b : CSs} (F : DefK K mg x st ps f fd) (S : FnScope N ps (defScope st)) (hb : ∀ x, x ∈ biNames → mg x = none)
    (hc : chkQs N (defScope st) b (defBody st) = true) : CalH P w K mg base 3 x (fnOf ps.length N.length b) :=
  ⟨3, f, fd, ps, fn_okH (lv := 2) F.fn S hb hc, F.mgf, F.fn.kp, F.bd, Nat.le_refl _⟩
/-- a reading that says no more -/
theorem CalOk.imp {lv : Nat} {x : Str} {g g' : Fn} (C : CalOk P w K mg base lv x g) (h : ∀ ds S, g' ds S ≠ .stuck → g' ds S = g ds S) : CalOk P w K mg base lv x g' := by
  obtain ⟨k, f, fd, ps, h1, h2, h3, h4, h5⟩ := C.ex
  refine ⟨k, f, fd, ps, h1.imp fun vs H Q E ⟨hid, ρ, S, ds, r, rl, p⟩ => ⟨hid, ρ, S, ds, r, rl, ?_⟩, h2, h3, h4, h5⟩
  have q : g' ds S ≠ .stuck := fun z => by rw [z] at p; exact p.elim
  rw [← h ds S q]
  exact p
/-! ### the law's own promise -/
theorem repl_ints {hid : List Addr} {ρ : Rho} {H : Hp} : ∀ ns : List Int, RepL K hid ρ H (ns.map V.int) (ns.map D.int)
  | [] => .nil
  | n :: ns => .cons (.int n) (repl_ints ns)
/-- the law's def answers True: by its reading at the script -/
theorem law_ok {k : Nat} {f : Addr} {fd : FuncData} {ps : List Str} {g : Fn} (F : FnOk P w K mg base (L2N.CX P w) k f fd ps (spOf K mg g)) (hl : ps.length = 1)
    (h : ∀ ns : List Int, ns.length ≤ 63 → ∃ S, g [.scr (ns.map D.int)] [] = .ok (.bl true) S) :
    FnOk P w K mg base (L2N.CX P w) k f fd ps (fun vs H Q E => ∃ (a : Addr) (ns : List Int), vs = [.ref a] ∧ ns.length ≤ 63 ∧ Only H ∧ SqL K H a (ns.map V.int) ∧ Q = (fun v _ => v = .bl true)) :=
  F.imp fun vs H Q E ⟨a, ns, e1, e2, e3, e4, e5⟩ => by
    subst e1 e5
    obtain ⟨S, hS⟩ := h ns e2
    have R : RelS K [] [] H mg [] := ⟨rfl, fun _ _ _ h => by simp at h, fun n c h => by simp at h, fun a h => by simp at h⟩
    refine ⟨[], [], [], [.scr (ns.map D.int)], R, .cons (.scr ?_ (repl_ints ns)) .nil, ?_⟩
    · rcases e4 with (q | ⟨o, q⟩) | q
      · rcases e3 a with z | ⟨o, xs, z⟩
        · rw [q] at z; cases z
        · rw [q] at z; cases z
      · exact .inr ⟨o, q, by simp, by simp⟩
      · exact .inl (.inr q)
    · rw [hS]
      intro ρ' H' _ _ v r
      cases r
      rfl
theorem cx_no {H : Hp} {s : Shared} {e : Value} {s' : Shared} (h : L2N.CX P w [] H s (fun _ _ _ => False) e s') : False := by
  obtain ⟨_, _, _, _, _, _, _, _, _, _, _, _, z⟩ := h
  exact z.elim
end
end MI
namespace MI
open PySem PySem.Spec L2 PyProof.Rows
/-- a law's end: the reading of its def answers True at each script -/
theorem walk_mi {l : PySem.W.OpenLaw} {k : Nat} {q : Program} {loose : List Str} {XP : (Str → Option Value) → Heap → Prop} {YP : World → Heap → Prop} {d : DefRec} {x : Str} {g : Fn}
    (hn : l.most = some 63) (hdf : d.params.defaults = []) (hr : Room k callerA) (h : ∀ ns : List Int, ns.length ≤ 63 → ∃ S, g [.scr (ns.map D.int)] [] = .ok (.bl true) S)
    (F : ∀ (w : World) (mg : Str → Option Value) (fa : Addr) (hp : Heap), YP w hp → hp.Ns mainGlobals mg → mg d.name = some (.ref fa) →
      ∃ (K : PySem.W.Frag) (fd : FuncData), K.In hp ∧ (∀ (s : Shared) (u : Value), BindsTo s fd ⟨[u], []⟩ [(x, u)]) ∧
        ∀ base : Heap, K.In base → base.Ns mainGlobals mg → FnOk l.prog w K mg base (L2N.CX l.prog w) k fa fd [x] (spOf K mg g)) :
    PySem.W.WalkO q loose XP YP l.row.toRowW d [] (fun f vs => PySem.call f vs) := by
  refine Att.attach_call hn hdf fun w t₀ t₁ mg mb fa o pm cd doc a us ns T1 Y1 w1 w2 w3 hm ho hi hln hgn => ?_
  obtain ⟨K, fd, KX, hb, hF⟩ := F w mg fa _ Y1 T1.T.g hm
  exact law_call KX T1.T.g T1.T.b T1.T.builtins T1.T.nolimit hgn ho hi (Nat.le_trans hln (by decide)) hr (fun base b1 b2 => law_ok (hF base b1 b2) rfl h) hb
    (fun H hO hS => ⟨a, ns, rfl, hln, hO, hS, rfl⟩) fun H e t' z => cx_no z
/-! ### what the head tells -/
/-- a whole number or a text of the module -/
inductive Gv where
  | i (n : Int)
  | s (z : Str)
deriving DecidableEq
def Gv.fa (x : Str) : Gv → He.Fa
  | .i n => .int x n
  | .s z => .str x z
def Gv.d : Gv → D
  | .i n => .int n
  | .s z => .str z
def fa0 (xs : List Str) (is : List (Str × Gv)) : List He.Fa := xs.map He.Fa.glo ++ (biNames.map He.Fa.free ++ is.map fun p => p.2.fa p.1)
theorem fact_mem {xs : List Str} {is : List (Str × Gv)} {fn : List He.DefD} {K : PySem.W.Frag} (c : He.SaysD (fa0 xs is) fn K) {f : He.Fa} (h : f ∈ fa0 xs is) : f.ok K = true := by
  obtain ⟨i, hl, hi⟩ := List.mem_iff_getElem.mp h
  exact c.fact i (f := f) (by rw [List.getElem?_eq_getElem hl, hi])
theorem fact_glo {xs : List Str} {is : List (Str × Gv)} {fn : List He.DefD} {K : PySem.W.Frag} {h : Heap} {mg : Str → Option Value} (X : K.In h) (G : h.Ns mainGlobals mg) (c : He.SaysD (fa0 xs is) fn K) {i : Nat} {x : Str} (hi : xs[i]? = some x) : mg x = some (.ref (He.ga K x)) :=
  He.glo_ok X G (fact_mem c (List.mem_append.mpr (.inl (List.mem_map.mpr ⟨x, List.mem_of_getElem? hi, rfl⟩))))
theorem fact_free {xs : List Str} {is : List (Str × Gv)} {fn : List He.DefD} {K : PySem.W.Frag} {h : Heap} {mg : Str → Option Value} (X : K.In h) (G : h.Ns mainGlobals mg) (c : He.SaysD (fa0 xs is) fn K) : ∀ x, x ∈ biNames → mg x = none := fun x hx =>
  He.free_ok X G (fact_mem c (List.mem_append.mpr (.inr (List.mem_append.mpr (.inl (List.mem_map.mpr ⟨x, hx, rfl⟩))))))
/-- the module's whole numbers -/
def GDi (is : List (Str × Gv)) : Str → D → Prop := fun x d => ∃ g, (x, g) ∈ is ∧ d = g.d
theorem fact_int {xs : List Str} {is : List (Str × Gv)} {fn : List He.DefD} {K : PySem.W.Frag} {h : Heap} {mg : Str → Option Value} (X : K.In h) (G : h.Ns mainGlobals mg) (c : He.SaysD (fa0 xs is) fn K) : ∀ x d, GDi is x d → GlobOk K mg x d := fun x d ⟨g, hi, hd⟩ => by
  subst hd
  have m := fact_mem c (f := g.fa x) (List.mem_append.mpr (.inr (List.mem_append.mpr (.inr (List.mem_map.mpr ⟨(x, g), hi, rfl⟩)))))
  cases g with
  | i n =>
    obtain ⟨t, ht⟩ := He.int_ok X G m
    exact ⟨_, .int n, ht, ⟨t, rfl⟩, fun _ _ _ => .int n⟩
  | s z =>
    obtain ⟨t, ht⟩ := He.str_ok X G m
    exact ⟨_, .str z, ht, ⟨t, rfl⟩, fun _ _ _ => .str z⟩
/-- a def, by its place among the facts -/
def dfn (x : Str) (st : PySem.Stmt) : He.DefD := ⟨(x, none), x, x, defArgs st, defBody st, defScope st, [], []⟩
theorem def_at {xs ps : List Str} {is : List (Str × Gv)} {fn : List He.DefD} {K : PySem.W.Frag} {h : Heap} {mg : Str → Option Value} {x : Str} {st : PySem.Stmt} {i : Nat} (X : K.In h) (G : h.Ns mainGlobals mg) (c : He.SaysD (fa0 xs is) fn K) (hx : xs[i]? = some x) (hd : fn[i]? = some (dfn x st))
    (b : ∀ (kV doc pm : Value) (an : Option Addr) (cdv ct : Value) (us : List Value), us.length = ps.length → bindArgs (PySem.W.fnOf x x (defArgs st) (defBody st) (defScope st) .none kV doc pm an cdv ct) ⟨us, []⟩ = pure (ps.zip us)) :
    ∃ fd, DefK K mg x st ps (He.ga K x) fd := by
  obtain ⟨fd, F⟩ := c.def_ i hd
  exact ⟨fd, F, fact_glo X G c hx, FunD.bindsN F b⟩
theorem stuck_ok {P : Program} {w : World} {K : PySem.W.Frag} {mg : Str → Option Value} {base : Heap} {lv : Nat} {x : Str} {st : PySem.Stmt} {ps : List Str} {f : Addr} {fd : FuncData} (F : DefK K mg x st ps f fd) : CalOk P w K mg base lv x (fun _ _ => .stuck) :=
  ⟨lv, f, fd, ps, ⟨fun vs H Q E h => (show False by obtain ⟨_, _, _, _, _, _, z⟩ := h; exact z).elim, fun A outer s H args us vs Q E _ _ _ _ h => (show False by obtain ⟨_, _, _, _, _, _, z⟩ := h; exact z).elim⟩, F.mgf, F.fn.kp, F.bd, Nat.le_refl _⟩
end MI
namespace MI
open PySem PySem.Spec L2
/-! ### the reading, row by row -/
section
variable {α β : Type} {a b c e o i : CE} {es : CEs} {ρ ρ' : MEnv} {S S' : Store} {d x y : D} {ss sa sb : CSs} {s : CS} {t : Tg} {it : CI} {k : α → Store → Rs β} {kf : α → Store → Fl} {v : α} {n : Nat} {cn : Str} {fs : List (Str × D)} {kk : MEnv → Store → Fl} {ds : List D}
theorem bind_ok : (Rs.ok v S).bind k = k v S := (rfl)
theorem fl_ok : (Rs.ok v S).fl ρ kf = kf v S := (rfl)
theorem of_some : Rs.of (some v) S = .ok v S := (rfl)
def Fl.seq (r : Fl) (k : MEnv → Store → Fl) : Fl := match r with | .nx ρ S => k ρ S | r => r
theorem seq_nx : (Fl.nx ρ S).seq kk = kk ρ S := (rfl)
theorem seq_ret : (Fl.ret d S).seq kk = .ret d S := (rfl)
def pick (d : D) (a b : Fl) : Fl := match d with | .bl true => a | .bl false => b | _ => .stuck
theorem pick_t {a b : Fl} : pick (.bl true) a b = a := (rfl)
theorem pick_f {a b : Fl} : pick (.bl false) a b = b := (rfl)
def getV (o : Option (Option D)) (S : Store) : Rs D := match o with | some (some d) => .ok d S | _ => .stuck
theorem getV_ok : getV (some (some d)) S = .ok d S := (rfl)
def putE (o : Option MEnv) (S : Store) : Fl := match o with | some ρ' => .nx ρ' S | none => .stuck
theorem putE_ok : putE (some ρ) S = .nx ρ S := (rfl)
def putS (ρ : MEnv) (o : Option Store) : Fl := match o with | some S' => .nx ρ S' | none => .stuck
theorem putS_ok : putS ρ (some S) = .nx ρ S := (rfl)
theorem ev_var {j : Nat} : ev (.var j) ρ S = getV ρ[j]? S := by
  show (match ρ[j]? with | some (some d) => Rs.ok d S | _ => .stuck) = getV ρ[j]? S
  unfold getV
  rfl
theorem ev_non : ev .non ρ S = .ok .non S := (rfl)
theorem ev_bl {b : Bool} : ev (.bl b) ρ S = .ok (.bl b) S := (rfl)
theorem ev_int {i : Int} : ev (.int i) ρ S = .ok (.int i) S := (rfl)
theorem ev_str {z : Str} : ev (.str z) ρ S = .ok (.str z) S := (rfl)
theorem ev_glob {z : Str} : ev (.glob z d) ρ S = .ok d S := (rfl)
theorem ev_bin {op : BOp} : ev (.bin op a b) ρ S = (ev a ρ S).bind fun x S => (ev b ρ S).bind fun y S => Rs.of (binD op x y S) S := (rfl)
theorem ev_cmp {op : COp} : ev (.cmp op a b) ρ S = (ev a ρ S).bind fun x S => (ev b ρ S).bind fun y S => Rs.of ((cmpD op x y S).map .bl) S := (rfl)
def negD (d : D) (S : Store) : Rs D := match d with | .int i => .ok (.int (-i)) S | _ => .stuck
theorem negD_int {i : Int} : negD (.int i) S = .ok (.int (-i)) S := (rfl)
theorem ev_neg : ev (.neg a) ρ S = (ev a ρ S).bind negD := (rfl)
def notD (d : D) (S : Store) : Rs D := match d with | .bl b => .ok (.bl (!b)) S | _ => .stuck
theorem notD_bl {b : Bool} : notD (.bl b) S = .ok (.bl (!b)) S := (rfl)
theorem ev_not : ev (.not a) ρ S = (ev a ρ S).bind notD := (rfl)
theorem ev_band : ev (.band es) ρ S = evAnd es ρ S := (rfl)
theorem ev_bor : ev (.bor es) ρ S = evOr es ρ S := (rfl)
def pickE (d : D) (a b : Rs D) : Rs D := match d with | .bl true => a | .bl false => b | _ => .stuck
theorem pickE_t {a b : Rs D} : pickE (.bl true) a b = a := (rfl)
theorem pickE_f {a b : Rs D} : pickE (.bl false) a b = b := (rfl)
theorem and_1 : evAnd (.cons a .nil) ρ S = (ev a ρ S).bind fun x S => pickE x (.ok (.bl true) S) (.ok (.bl false) S) := by
  show (ev a ρ S).bind (fun x S => (match x with | .bl b => Rs.ok (D.bl b) S | _ => .stuck)) = _
  cases ev a ρ S with
  | ok x S => cases x with
    | bl b => cases b <;> rfl
    | _ => rfl
  | ex c fs S => rfl
  | stuck => rfl
theorem and_c : evAnd (.cons a (.cons b es)) ρ S = (ev a ρ S).bind fun x S => pickE x (evAnd (.cons b es) ρ S) (.ok (.bl false) S) := by
  show (ev a ρ S).bind (fun x S => (match x with | .bl true => evAnd (.cons b es) ρ S | .bl false => Rs.ok (D.bl false) S | _ => .stuck)) = _
  cases ev a ρ S with
  | ok x S => cases x with
    | bl b => cases b <;> rfl
    | _ => rfl
  | ex c fs S => rfl
  | stuck => rfl
theorem or_1 : evOr (.cons a .nil) ρ S = (ev a ρ S).bind fun x S => pickE x (.ok (.bl true) S) (.ok (.bl false) S) := by
  show (ev a ρ S).bind (fun x S => (match x with | .bl b => Rs.ok (D.bl b) S | _ => .stuck)) = _
  cases ev a ρ S with
  | ok x S => cases x with
    | bl b => cases b <;> rfl
    | _ => rfl
  | ex c fs S => rfl
  | stuck => rfl
theorem or_c : evOr (.cons a (.cons b es)) ρ S = (ev a ρ S).bind fun x S => pickE x (.ok (.bl true) S) (evOr (.cons b es) ρ S) := by
  show (ev a ρ S).bind (fun x S => (match x with | .bl false => evOr (.cons b es) ρ S | .bl true => Rs.ok (D.bl true) S | _ => .stuck)) = _
  cases ev a ρ S with
  | ok x S => cases x with
    | bl b => cases b <;> rfl
    | _ => rfl
  | ex c fs S => rfl
  | stuck => rfl
theorem ev_chain {op op' : COp} : ev (.chain op op' a b c) ρ S = (ev a ρ S).bind fun x S => (ev b ρ S).bind fun y S => (match cmpD op x y S with
    | some true => (ev c ρ S).bind fun z S => Rs.of ((cmpD op' y z S).map .bl) S
    | some false => .ok (.bl false) S
    | none => .stuck) := (rfl)
theorem ev_isN : ev (.isN a) ρ S = (ev a ρ S).bind fun x S => Rs.of ((isNon x S).map .bl) S := (rfl)
theorem ev_notN : ev (.notN a) ρ S = (ev a ρ S).bind fun x S => Rs.of ((isNon x S).map fun b => .bl (!b)) S := (rfl)
theorem ev_ite : ev (.ite c a b) ρ S = (ev c ρ S).bind fun x S => pickE x (ev a ρ S) (ev b ρ S) := (rfl)
theorem ev_call {z : Str} {g : Fn} : ev (.call z g es) ρ S = (evs es ρ S).bind fun ds S => g ds S := (rfl)
theorem ev_bi {f : BFn} : ev (.bi f es) ρ S = (evs es ρ S).bind fun ds S => Rs.of (biD f ds S) S := (rfl)
theorem ev_tup : ev (.tup es) ρ S = (evs es ρ S).bind fun ds S => .ok (.tup ds) S := (rfl)
theorem ev_new {m : Bool} {l : CL} : ev (.new m l) ρ S = (evL l ρ S).bind fun ds S => newL m ds S := (rfl)
theorem new_f : newL false ds S = .ok (.lst ds) S := (rfl)
theorem new_t (h : ltL ds S.length = true) : newL true ds S = .ok (.ptr S.length) (S ++ [.lst ds]) := by unfold newL; rw [if_pos rfl, if_pos h]
theorem ev_dnewK : ev (.dnew false) ρ S = .ok (.ptr S.length) (S ++ [.dK []]) := (rfl)
theorem ev_dnewT : ev (.dnew true) ρ S = .ok (.ptr S.length) (S ++ [.dT []]) := (rfl)
theorem ev_ix : ev (.ix a b) ρ S = (ev a ρ S).bind fun x S => (ev b ρ S).bind fun y S => Rs.of (ixD x y S) S := (rfl)
theorem ev_sl {lo hi : CO} : ev (.sl a lo hi) ρ S = (ev a ρ S).bind fun x S => (evN lo ρ S).bind fun l S => (evN hi ρ S).bind fun h S => Rs.of (slD x l h S) S := (rfl)
def getF (o : Option (Option D)) (S : Store) : Rs D := match o with
  | some (some (.ptr n)) => (match S[n]? with | some (.lst ds) => .ok (.lst ds) (S.set n .dead) | _ => .stuck)
  | _ => .stuck
theorem ev_frz {j : Nat} : ev (.frz j) ρ S = getF ρ[j]? S := (rfl)
theorem getF_ok (h : S[n]? = some (.lst ds)) : getF (some (some (.ptr n))) S = .ok (.lst ds) (S.set n .dead) := by
  show (match S[n]? with | some (.lst ds) => Rs.ok (D.lst ds) (S.set n .dead) | _ => .stuck) = _
  rw [h]
theorem evs_nil : evs .nil ρ S = .ok [] S := (rfl)
theorem evs_cons : evs (.cons a es) ρ S = (ev a ρ S).bind fun x S => (evs es ρ S).bind fun xs S => .ok (x :: xs) S := (rfl)
theorem evN_n : evN .none ρ S = .ok none S := (rfl)
def intN (d : D) (S : Store) : Rs (Option Int) := match d with | .int i => .ok (some i) S | _ => .stuck
theorem intN_int {i : Int} : intN (.int i) S = .ok (some i) S := (rfl)
theorem evN_s : evN (.some a) ρ S = (ev a ρ S).bind intN := (rfl)
theorem evO_n : evO .none ρ S = .ok none S := (rfl)
theorem evO_s : evO (.some a) ρ S = (ev a ρ S).bind fun x S => .ok (some x) S := (rfl)
theorem evL_disp : evL (.disp es) ρ S = evs es ρ S := (rfl)
def joinM (x : D) (f : Str → Rs D) : Rs D := match x with | .str s => f s | _ => .stuck
theorem ev_join : ev (.join a b) ρ S = (ev a ρ S).bind fun x S => joinM x fun s => (ev b ρ S).bind fun y S => Rs.of (joinD s (seqOf y S)) S := (rfl)
theorem joinM_s {z : Str} {f : Str → Rs D} : joinM (.str z) f = f z := (rfl)
def sortM (x : D) (S : Store) : Rs (List D) := (match x with
    | .tup _ => .stuck
    | .con _ => .stuck
    | x => (match seqOf x S with
      | some ds => if fitL ds 50 && alikeAllD ds && sortableD ds then .ok (ds.mergeSort leD) S else .stuck
      | none => .stuck))
theorem evL_sorted : evL (.sorted e) ρ S = (ev e ρ S).bind sortM := (rfl)
theorem sortM_l (h : (fitL ds 50 && alikeAllD ds && sortableD ds) = true) : sortM (.lst ds) S = .ok (ds.mergeSort leD) S := by
  show (if fitL ds 50 && alikeAllD ds && sortableD ds then Rs.ok (ds.mergeSort leD) S else .stuck) = _
  rw [if_pos h]
def sortkM (g : Fn) (x : D) (S : Store) : Rs (List D) := (match x with
    | .tup _ => .stuck
    | .con _ => .stuck
    | x => (match seqOf x S with
      | some ds => (match mapK g ds S with
        | some (ks, S2) => if fitL ks 50 && alikeAllD ks && sortableD ks then .ok (((ks.zip ds).mergeSort fun a b => leD a.1 b.1).map (·.2)) S2 else .stuck
        | none => .stuck)
      | none => .stuck))
theorem evL_sortk {z : Str} {g : Fn} : evL (.sortk e z g) ρ S = (ev e ρ S).bind (sortkM g) := (rfl)
theorem sortkM_l {g : Fn} {ks : List D} (hm : mapK g ds S = some (ks, S')) (h : (fitL ks 50 && alikeAllD ks && sortableD ks) = true) : sortkM g (.lst ds) S = .ok (((ks.zip ds).mergeSort fun (a b : D × D) => leD a.1 b.1).map fun p : D × D => p.2) S' := by
  show (match mapK g ds S with
        | some (ks, S2) => if fitL ks 50 && alikeAllD ks && sortableD ks then Rs.ok (((ks.zip ds).mergeSort fun (a b : D × D) => leD a.1 b.1).map fun p : D × D => p.2) S2 else .stuck
        | none => .stuck) = _
  rw [hm]
  show (if _ then _ else _) = _
  rw [if_pos h]
theorem evL_list : evL (.list e) ρ S = (ev e ρ S).bind fun x S => Rs.of (seqOf x S) S := (rfl)
def keysM (x : D) (S : Store) : Rs (List D) := (match x with
    | .ptr n => (match S[n]? with
      | some (.dK kvs) => .ok (kvs.map fun kv => kD kv.1) S
      | some (.dT kvs) => .ok (kvs.map fun kv => .tup (kv.1.map kD)) S
      | _ => .stuck)
    | _ => .stuck)
def dcN (o : Option Store) (kvs : List (Key × D)) : Rs D := match o with
  | some S3 => if kvs.all (fun kv => kv.2.lt S3.length) then .ok (.ptr S3.length) (S3 ++ [.dK kvs]) else .stuck
  | none => .stuck
theorem dcN_ok {kvs : List (Key × D)} (h : kvs.all (fun kv => kv.2.lt S.length) = true) : dcN (some S) kvs = .ok (.ptr S.length) (S ++ [.dK kvs]) := by
  unfold dcN
  dsimp only
  rw [if_pos h]
theorem ev_dcomp {own : List (Str × Nat)} {t : Tg} {it : CI} {c : CO} {k v : CE} : ev (.dcomp own t it c k v) ρ S = (evI it ρ (lockI it ρ S).1).bind fun items S1 => (compD (turnD t (own.map (·.2)) c k v ρ) items [] S1).bind fun kvs S2 => dcN (unl (lockI it ρ S).2 S2) kvs := by
  rw [ev_dc]
  unfold evDc
  rw [bind_assoc]
  rfl
theorem ex_rem : ex (.rem o e) ρ S = (ev o ρ S).fl ρ fun x S => if isCellL x S then (ev e ρ S).fl ρ fun d S => putS ρ (remL x d S) else .stuck := (rfl)
theorem cmp_eqd {m : Nat} : cmpD .eq (.ptr n) (.ptr m) S = eqDict n (.ptr m) S := (rfl)
theorem cmp_ned {m : Nat} : cmpD .ne (.ptr n) (.ptr m) S = (eqDict n (.ptr m) S).map (!·) := (rfl)
theorem iterL_t : iterL (.tup ds) = some ds := (rfl)
theorem iterL_l : iterL (.lst ds) = some ds := (rfl)
def revM (x : D) (S : Store) : Rs (List D) := (match x with
      | .tup _ => .stuck
      | .con _ => .stuck
      | x => Rs.of ((seqOf x S).map List.reverse) S)
theorem evL_lrng {a b : CE} : evL (.lrng a b) ρ S = (ev a ρ S).bind fun x S => (ev b ρ S).bind fun y S => lrngM x y S := (rfl)
theorem evL_stp {k : Nat} : evL (.stp e k) ρ S = (ev e ρ S).bind fun x S => stpM k x S := (rfl)
theorem evL_rev : evL (.rev e) ρ S = (ev e ρ S).bind revM := (rfl)
theorem revM_l : revM (.lst ds) S = .ok ds.reverse S := (rfl)
def catM (x y : D) (S : Store) : Rs (List D) := (match dsOf x S with
      | some xs => (match dsOf y S with
        | some ys => if xs.length + ys.length ≤ 1000000 then .ok (xs ++ ys) S else .stuck
        | none => .stuck)
      | none => .stuck)
theorem evL_cat {a b : CE} : evL (.cat a b) ρ S = (ev a ρ S).bind fun x S => (ev b ρ S).bind fun y S => catM x y S := (rfl)
theorem catM_ok {x y : D} {xs ys : List D} (h1 : dsOf x S = some xs) (h2 : dsOf y S = some ys) (h : xs.length + ys.length ≤ 1000000) : catM x y S = .ok (xs ++ ys) S := by
  unfold catM
  rw [h1, h2]
  exact if_pos h
theorem evL_srtd : evL (.srtd e) ρ S = (ev e ρ S).bind fun x S => srtdM x S := (rfl)
theorem srtdM_ok {kvs : List (Key × D)} {ks : List Int} (h : S[n]? = some (.dK kvs)) (hk : intKeys kvs = some ks) (hl : ks.length < 64) : srtdM (.ptr n) S = .ok ((ks.mergeSort fun a b => decide (a ≤ b)).map .int) S := by
  unfold srtdM
  simp only [h, hk, if_pos hl]
theorem maxK_ok {kvs : List (Key × D)} {ks : List Int} {m : Int} (h : S[n]? = some (.dK kvs)) (hk : intKeys kvs = some ks) (hm : ks.max? = some m) : biD .maxK [.ptr n] S = some (.int m) := by
  show bi1 .maxK (.ptr n) S = _
  unfold bi1
  simp only [h, hk, Option.bind_some, hm, Option.map_some]
theorem ev_cnt : ev (.cnt a b) ρ S = (ev a ρ S).bind fun x S => if isLstD x then (ev b ρ S).bind fun y S => Rs.of (cntM x y) S else .stuck := (rfl)
theorem evL_keys : evL (.keys e) ρ S = (ev e ρ S).bind keysM := (rfl)
theorem keysM_K {kvs : List (Key × D)} (h : S[n]? = some (.dK kvs)) : keysM (.ptr n) S = .ok (kvs.map fun kv => kD kv.1) S := by
  unfold keysM
  simp only [h]
theorem keysM_T {kvs : List (List Key × D)} (h : S[n]? = some (.dT kvs)) : keysM (.ptr n) S = .ok (kvs.map fun kv => .tup (kv.1.map kD)) S := by
  unfold keysM
  simp only [h]
theorem seq_lst : seqOf (.lst ds) S = some ds := (rfl)
theorem seq_tup : seqOf (.tup ds) S = some ds := (rfl)
theorem b_mulS {z : Str} {j : Int} (h : z.length ≤ 1000 ∧ -1000 ≤ j ∧ j ≤ 1000) : binD .mul (.str z) (.int j) S = some (.str (Txt.mul z j)) := by
  show (if _ then _ else _) = _
  rw [if_pos h]
theorem b_mulL {j : Int} (h : ds.length * j.toNat ≤ 1000000 ∧ -1000 ≤ j ∧ j ≤ 1000) : binD .mul (.lst ds) (.int j) S = some (.lst (List.replicate j.toNat ds).flatten) := by
  show (if _ then _ else _) = _
  rw [if_pos h]
def putO (x k d : D) (S : Store) (f : Store → Fl) : Fl := (match (if isDict x S then dPut x k d S else putL x k d S) with
  | some S => f S
  | none => .stuck)
theorem ex_putp {i j p : CE} : ex (.putp o i p j a b) ρ S = (ev a ρ S).fl ρ fun d S => (ev b ρ S).fl ρ fun d2 S => (ev o ρ S).fl ρ fun x S => (ev i ρ S).fl ρ fun k S => putO x k d S fun S =>
    (ev p ρ S).fl ρ fun x S => (ev j ρ S).fl ρ fun k S => putS ρ (if isDict x S then dPut x k d2 S else putL x k d2 S) := (rfl)
theorem evL_cm {own : List (Str × Nat)} {co : CO} : evL (.comp own t it co e) ρ S = (evI it ρ (lockI it ρ S).1).bind fun items S1 => (compL (turnC t (own.map (·.2)) co e ρ) items [] S1).bind fun ds S2 => (match unl (lockI it ρ S).2 S2 with | some S3 => .ok ds S3 | none => .stuck) := (rfl)
theorem evI_seq : evI (.seq e) ρ S = (ev e ρ S).bind fun x S => Rs.of (iterD x) S := (rfl)
def rngD (d : D) (S : Store) : Rs (List D) := match d with | .int j => if small62 j then .ok (rangeD 0 j) S else .stuck | _ => .stuck
theorem rngD_ok {j : Int} (h : small62 j = true) : rngD (.int j) S = .ok (rangeD 0 j) S := by
  show (if small62 j then _ else _) = _
  rw [if_pos h]
theorem evI_rng1 : evI (.rng1 e) ρ S = (ev e ρ S).bind rngD := (rfl)
def rngD2 (d d' : D) (S : Store) : Rs (List D) := match d, d' with | .int i, .int j => if small62 i && small62 j then .ok (rangeD i j) S else .stuck | _, _ => .stuck
theorem rngD2_ok {i j : Int} (h : small62 i = true) (h' : small62 j = true) : rngD2 (.int i) (.int j) S = .ok (rangeD i j) S := by
  show (if (small62 i && small62 j) = true then _ else _) = _
  rw [if_pos (by rw [h, h']; rfl)]
theorem evI_rng2 : evI (.rng2 a b) ρ S = (ev a ρ S).bind fun x S => (ev b ρ S).bind fun y S => rngD2 x y S := (rfl)
theorem evI_enum : evI (.enum e) ρ S = (ev e ρ S).bind fun x S => Rs.of ((iterL x).map enumD) S := (rfl)
theorem exs_nil : exs .nil ρ S = .nx ρ S := (rfl)
theorem exs_cons : exs (.cons s ss) ρ S = (ex s ρ S).seq (exs ss) := by
  show (match ex s ρ S with | .nx ρ' S' => exs ss ρ' S' | r => r) = _
  cases ex s ρ S <;> rfl
def frzM (o : Option (Option D)) (S : Store) (k : List D → Nat → Fl) : Fl := match o with
  | some (some (.ptr n)) => (match S[n]? with | some (.lst ds) => k ds n | _ => .stuck)
  | _ => .stuck
theorem exs_frz {j : Nat} : exs (.frz j ss) ρ S = frzM ρ[j]? S fun ds n => exs ss (ρ.set j (some (.lst ds))) (S.set n .dead) := by
  show (match ρ[j]? with
    | some (some (.ptr n)) => (match S[n]? with | some (.lst ds) => exs ss (ρ.set j (some (.lst ds))) (S.set n .dead) | _ => .stuck)
    | _ => .stuck) = _
  rfl
theorem frzM_ok {kf : List D → Nat → Fl} (h : S[n]? = some (.lst ds)) : frzM (some (some (.ptr n))) S kf = kf ds n := by
  unfold frzM
  simp only [h]
theorem ex_asg : ex (.asg t e) ρ S = (ev e ρ S).fl ρ fun d S => putE (setT t d ρ) S := (rfl)
theorem setT_n {j : Nat} : setT (.name j) d ρ = some (ρ.set j (some d)) := (rfl)
theorem setT_t {is : List Nat} (h : ds.length = is.length) : setT (.tup is) (.tup ds) ρ = some ((is.zip ds).foldl (fun ρ p => ρ.set p.1 (some p.2)) ρ) := by
  show (if _ then _ else _) = _
  rw [if_pos h]
theorem ex_par {i j : Nat} : ex (.par i j a b) ρ S = (ev a ρ S).fl ρ fun x S => (ev b ρ S).fl ρ fun y S => .nx ((ρ.set i (some x)).set j (some y)) S := (rfl)
theorem ex_put : ex (.put o i e) ρ S = (ev e ρ S).fl ρ fun d S => (ev o ρ S).fl ρ fun x S => (ev i ρ S).fl ρ fun k S => putS ρ (if isDict x S then dPut x k d S else putL x k d S) := (rfl)
def augD (o : Option (Option D)) (j : Nat) (ρ : MEnv) (r : Rs D) : Fl := match o with
  | some (some (.int x)) => r.fl ρ fun d S => (match d with | .int y => .nx (ρ.set j (some (.int (x + y)))) S | _ => .stuck)
  | _ => .stuck
theorem ex_aug {j : Nat} : ex (.aug j e) ρ S = augD ρ[j]? j ρ (ev e ρ S) := (rfl)
theorem augD_ok {j : Nat} {x y : Int} : augD (some (some (.int x))) j ρ (.ok (.int y) S) = .nx (ρ.set j (some (.int (x + y)))) S := (rfl)
theorem ex_drop : ex (.drop e) ρ S = (ev e ρ S).fl ρ fun _ S => .nx ρ S := (rfl)
theorem ex_app : ex (.app o e) ρ S = (ev o ρ S).fl ρ fun x S => if isCellL x S then (ev e ρ S).fl ρ fun d S => putS ρ (appL x d S) else .stuck := (rfl)
theorem ex_ifs : ex (.ifs c sa sb) ρ S = (ev c ρ S).fl ρ fun x S => pick x (exs sa ρ S) (exs sb ρ S) := (rfl)
theorem ex_for : ex (.for_ t it ss) ρ S = ((evI it ρ (lockI it ρ S).1).fl ρ fun items S => forL (turnF t ss) items ρ S).unlock (lockI it ρ S).2 := (rfl)
theorem ex_while : ex (.while_ n c ss) ρ S = whileL (ev c) (exs ss) n ρ S := (rfl)
theorem ex_ret : ex (.ret e) ρ S = (ev e ρ S).fl ρ fun d S => .ret d S := (rfl)
theorem ex_retN : ex .retN ρ S = .ret .non S := (rfl)
theorem ex_pass : ex .pass ρ S = .nx ρ S := (rfl)
theorem unlock_nx : (Fl.nx ρ S).unlock none = .nx ρ S := (rfl)
theorem unlock_ret : (Fl.ret d S).unlock none = .ret d S := (rfl)
theorem lock_seq : lockI (.seq e) ρ S = (S, none) := (rfl)
def lockO (o : Option (Option D)) (S : Store) : Store × Option (Nat × Cell) := match o with
  | some (some d) => lockC d S
  | _ => (S, none)
theorem lock_cell {i : Nat} : lockI (.cell i) ρ S = lockO ρ[i]? S := (rfl)
theorem lockO_ok : lockO (some (some d)) S = lockC d S := (rfl)
def iterO (o : Option (Option D)) (S : Store) : Rs (List D) := match o with
  | some (some d) => Rs.of (iterC d S) S
  | _ => .stuck
theorem evI_cell {i : Nat} : evI (.cell i) ρ S = iterO ρ[i]? S := (rfl)
theorem iterO_ok : iterO (some (some d)) S = Rs.of (iterC d S) S := (rfl)
def unlN (ρ : MEnv) (o : Option Store) : Fl := match o with
  | some S => .nx ρ S
  | none => .stuck
theorem unlN_ok : unlN ρ (some S) = .nx ρ S := (rfl)
theorem unlock_nxs {l : Nat × Cell} : (Fl.nx ρ S).unlock (some l) = unlN ρ (unl (some l) S) := (rfl)
theorem lock_rng1 : lockI (.rng1 e) ρ S = (S, none) := (rfl)
theorem evI_rng3 : evI (.rng3 a b c) ρ S = (ev a ρ S).bind fun x S => (ev b ρ S).bind fun y S => (ev c ρ S).bind fun z S => rngD3 x y z S := (rfl)
theorem lock_rng3 : lockI (.rng3 a b c) ρ S = (S, none) := (rfl)
theorem lock_rng2 : lockI (.rng2 a b) ρ S = (S, none) := (rfl)
theorem lock_enum : lockI (.enum e) ρ S = (S, none) := (rfl)
theorem lock_text : lockI (.text e) ρ S = (S, none) := (rfl)
theorem cmp_lt {i j : Int} : cmpD .lt (.int i) (.int j) S = some (decide (i < j)) := (rfl)
theorem cmp_le {i j : Int} : cmpD .le (.int i) (.int j) S = some (decide (i ≤ j)) := (rfl)
theorem cmp_gt {i j : Int} : cmpD .gt (.int i) (.int j) S = some (decide (j < i)) := (rfl)
theorem cmp_ge {i j : Int} : cmpD .ge (.int i) (.int j) S = some (decide (j ≤ i)) := (rfl)
theorem cmp_eqi {i j : Int} : cmpD .eq (.int i) (.int j) S = some (i == j) := (rfl)
theorem cmp_nei {i j : Int} : cmpD .ne (.int i) (.int j) S = some (!(i == j)) := (rfl)
theorem cmp_eqb {i j : Bool} : cmpD .eq (.bl i) (.bl j) S = some (i == j) := (rfl)
theorem cmp_neb {i j : Bool} : cmpD .ne (.bl i) (.bl j) S = some (!(i == j)) := (rfl)
theorem b_add {i j : Int} : binD .add (.int i) (.int j) S = some (.int (i + j)) := (rfl)
theorem b_sub {i j : Int} : binD .sub (.int i) (.int j) S = some (.int (i - j)) := (rfl)
theorem b_mul {i j : Int} (h : mulOk i j = true) : binD .mul (.int i) (.int j) S = some (.int (i * j)) := by
  show (if mulOk i j then _ else _) = _
  rw [if_pos h]
theorem b_mod {i j : Int} (h : 0 < j) : binD .mod (.int i) (.int j) S = some (.int (i % j)) := by
  show (if 0 < j then _ else _) = _
  rw [if_pos h]
theorem b_div {i j : Int} (h : 0 < j) (h' : divOk j = true) : binD .fdiv (.int i) (.int j) S = some (.int (i / j)) := by
  show (if divOk j then (if 0 < j then _ else _) else _) = _
  rw [if_pos h', if_pos h]
theorem b_divn {i j : Int} (h : j < 0) (h' : divOk j = true) : binD .fdiv (.int i) (.int j) S = some (.int (i.fdiv j)) := by
  show (if divOk j then (if 0 < j then _ else _) else _) = _
  rw [if_pos h', if_neg (by omega), if_pos h]
theorem bi_abs {i : Int} : biD .abs [.int i] S = some (.int (i.natAbs : Int)) := by
  show some (D.int (if i < 0 then -i else i)) = _
  congr 2
  split <;> omega
theorem bi_int {i : Int} : biD .int [.int i] S = some (.int i) := (rfl)
theorem len_lst : biD .len [.lst ds] S = some (.int ds.length) := (rfl)
theorem len_tup : biD .len [.tup ds] S = some (.int ds.length) := (rfl)
theorem len_scr : biD .len [.scr ds] S = some (.int ds.length) := (rfl)
theorem ix_lst {j : Int} : ixD (.lst ds) (.int j) S = atI ds j := (rfl)
theorem ix_tup {j : Int} : ixD (.tup ds) (.int j) S = atI ds j := (rfl)
theorem ix_scr {j : Int} : ixD (.scr ds) (.int j) S = atI ds j := (rfl)
theorem ix_ptr {j : Int} (h : S[n]? = some (.lst ds)) : ixD (.ptr n) (.int j) S = atI ds j := by
  unfold ixD isDict
  simp only [h, seqOf]
  rfl
theorem at_0 {x0 : D} : atI (x0 :: ds) 0 = some x0 := atI_nat (j := 0) rfl
theorem at_1 {x0 x1 : D} : atI (x0 :: x1 :: ds) 1 = some x1 := atI_nat (j := 1) rfl
theorem at_2 {x0 x1 x2 : D} : atI (x0 :: x1 :: x2 :: ds) 2 = some x2 := atI_nat (j := 2) rfl
theorem at_3 {x0 x1 x2 x3 : D} : atI (x0 :: x1 :: x2 :: x3 :: ds) 3 = some x3 := atI_nat (j := 3) rfl
theorem isN_non : isNon .non S = some true := (rfl)
theorem isN_int {i : Int} : isNon (.int i) S = some false := (rfl)
theorem isN_tup : isNon (.tup ds) S = some false := (rfl)
theorem isN_lst : isNon (.lst ds) S = some false := (rfl)
theorem isN_str {z : Str} : isNon (.str z) S = some false := (rfl)
theorem isN_bl {z : Bool} : isNon (.bl z) S = some false := (rfl)
theorem cell_l (h : S[n]? = some (.lst ds)) : isCellL (.ptr n) S = true := by
  unfold isCellL
  simp only [h]
theorem app_l (h : S[n]? = some (.lst ds)) (hl : d.lt n = true) (hs : ds.length < 1000000) : appL (.ptr n) d S = some (S.set n (.lst (ds ++ [d]))) := by
  unfold appL
  simp only [h, hl, if_true, hs]
theorem put_l {j : Int} {m : Nat} (h : S[n]? = some (.lst ds)) (hl : d.lt n = true) (hj : j = (m : Int)) (hm : m < ds.length) : (if isDict (.ptr n) S then dPut (.ptr n) (.int j) d S else putL (.ptr n) (.int j) d S) = some (S.set n (.lst (ds.set m d))) := by
  subst hj
  have e : ixN ds.length (m : Int) = some m := by
    unfold ixN
    rw [if_pos (by omega), if_pos (by omega)]; simp
  unfold isDict putL
  simp only [h, hl, if_true, e]
  rfl
theorem putO_l {j : Int} {m : Nat} {f : Store → Fl} (h : S[n]? = some (.lst ds)) (hl : d.lt n = true) (hj : j = (m : Int)) (hm : m < ds.length) : putO (.ptr n) (.int j) d S f = f (S.set n (.lst (ds.set m d))) := by
  unfold putO
  rw [put_l h hl hj hm]
end
end MI
namespace MI
open PySem PySem.Spec L2 PyProof.Rows
/-! ### exception classes, by their text and by what the head tells -/
def clsB (K : PySem.W.Frag) (C : Addr) : Bool := match K.lookup C with
  | some ⟨.type "type", _, .cls cd, sl⟩ => (match cd.mro, sl.toList with
    | .ref C' :: bm, [_, _, _, _, some (.builtin n), _] => C' == C && n == "ValueError.__new__" && !cd.hasDel && cd.hasDict && HandSPX.refsVE bm
    | _, _ => false)
  | _ => false
theorem clsB_ok {K : PySem.W.Frag} {C : Addr} (q : clsB K C = true) : ∃ nm qn N bs bm sn sub ab col dd k0 k1 k2 k3 k5, K.lookup C = some (excClassObj nm qn C N bs bm true sn sub ab col dd k0 k1 k2 k3 k5 "ValueError.__new__") ∧ HandSPX.refsVE bm = true := by
  unfold clsB at q
  split at q
  · rename_i dd cd sl ho
    split at q
    · rename_i C' bm k0 k1 k2 k3 n k5 hm hs
      simp only [Bool.and_eq_true, beq_iff_eq, Bool.not_eq_true'] at q
      obtain ⟨⟨⟨⟨rfl, rfl⟩, hdel⟩, hhd⟩, ht⟩ := q
      obtain ⟨nm, bs, mro, ns, qn, hd, sn, sub, ab, col, del⟩ := cd
      dsimp only at hm hdel hhd
      subst hm hdel hhd
      have hsl : sl = #[k0, k1, k2, k3, some (.builtin "ValueError.__new__"), k5] := by
        obtain ⟨l⟩ := sl
        simp only at hs
        rw [hs]
      subst hsl
      exact ⟨nm, qn, ns, bs, bm, sn, sub, ab, col, dd, k0, k1, k2, k3, k5, ho, ht⟩
    · cases q
  · cases q
def initA (K : PySem.W.Frag) (c : Str) : Addr := He.ma K (He.ga K c) "__init__"
def cellA (K : PySem.W.Frag) (c : Str) : Addr := match K.lookup (initA K c) with
  | some ⟨_, _, .func fd, _⟩ => (match fd.closure with | [(_, a)] => a | _ => 0)
  | _ => 0
def codeA (K : PySem.W.Frag) (c : Str) : Addr := match K.lookup (initA K c) with
  | some ⟨_, _, .func fd, _⟩ => (match fd.code with | .ref a => a | _ => 0)
  | _ => 0
abbrev XV : Type := Option (Str × Str × Arguments × FuncBody × Scope × Addr × List Str × Addr)
def xObs (K : PySem.W.Frag) (c : Str) : XV := match K.lookup (initA K c) with
  | some ⟨_, _, .func fd, _⟩ => some (fd.name, fd.qualname, fd.params, fd.body, fd.scope, fd.globals, fd.closure.map (·.1), fd.builtins)
  | _ => none
structure XD where
  c : Str
  qual : Str
  params : Arguments
  body : List PySem.Stmt
  scope : Scope
  fs : List Str
def XD.val (d : XD) : XV := some (("__init__" : Str), d.qual, d.params, .stmts d.body, d.scope, mainGlobals, [("__class__" : Str)], builtinsNs)
def codeB (K : PySem.W.Frag) (F c : Str) : Bool := match K.lookup (codeA K c) with
  | some ⟨_, _, .fields vs, _⟩ => (match (vs[2]? : Option Value) with | some (Value.str file _) => (F == file) | _ => false)
  | _ => false
def cellB (K : PySem.W.Frag) (c : Str) : Bool := match K.lookup (cellA K c) with
  | some ⟨_, _, .cell (some (.ref C)), _⟩ => decide (C = He.ga K c)
  | _ => false
def shapeB (K : PySem.W.Frag) (c : Str) : Bool := match K.lookup (initA K c) with
  | some ⟨_, _, .func fd, _⟩ => (match fd.code with | .ref _ => (match fd.defaults with | .none => true | _ => false) | _ => false)
  | _ => false
def gloB (K : PySem.W.Frag) (c : Str) : Bool := (He.Fa.glo c).ok K
def XB (K : PySem.W.Frag) (F : Str) (d : XD) : Bool :=
  gloB K d.c && (clsB K (He.ga K d.c) && (He.eqO (PySem.W.findIn K (.ref (He.ga K d.c)) "__setattr__") (some (some (.builtin "object.__setattr__"))) &&
  (He.eqO (PySem.W.findIn K (.ref (He.ga K d.c)) "__init__") (some (some (.ref (initA K d.c)))) && (decide (PySem.W.typeIn K (.ref (initA K d.c)) = some (.type "function")) && (PySem.W.keepIn K (.ref (He.ga K d.c)) &&
  (decide (PySem.W.subIn K (.ref (He.ga K d.c)) (.type "BaseException") = some true) && (decide (PySem.W.subIn K (.ref (He.ga K d.c)) (.type "ValueError") = some true) && (decide (PySem.W.typeIn K (.ref (He.ga K d.c)) = some (.type "type")) &&
  (decide (PySem.W.mroIn K (He.ga K d.c) (.ref (He.ga K d.c)) = some true) && (He.eqO (PySem.W.ks_superIn K (He.ga K d.c) (He.ga K d.c) "__init__") (some (some (.builtin "ValueError.__init__"))) && (He.eqO (PySem.W.nsIn K cStatics "thirdparty.any") (some none) &&
  (PySem.W.codeIn K (.ref (codeA K d.c)) d.qual && (codeB K F d.c && (cellB K d.c && (shapeB K d.c && (He.eqO (PySem.W.findIn K (.ref (He.ga K d.c)) "__getattribute__") (some (some (.builtin "BaseException.__getattribute__"))) &&
  (He.eqO (PySem.W.findIn K (.ref (He.ga K d.c)) "__getattr__") (some none) && (PySem.W.hasDictIn K (He.ga K d.c) && d.fs.all fun f => He.eqO (PySem.W.findIn K (.ref (He.ga K d.c)) f) (some none)))))))))))))))))))
def jsB (fs : List Str) (js : PySem.Expr) : Bool := match js with
  | .JoinedStr (e1 :: e2 :: es) _ => XC.fsB fs (e1 :: e2 :: es) && decide (es.length ≤ 100)
  | _ => false
def isLoc (sc : Scope) (x : Str) : Bool := match sc.names.lookup x with | some .local => true | _ => false
def noCell (k : NameKind) : Bool := match k with | .cell => false | _ => true
def isFun (sc : Scope) : Bool := match sc.kind with | .function => true | _ => false
def isFree (sc : Scope) (x : Str) : Bool := match sc.names.lookup x with | some .free => true | _ => false
def xtB (d : XD) (js : PySem.Expr) (as : List XC.Asg) : Bool :=
  (decide (as.map XC.Asg.f = d.fs) && (decide d.fs.Nodup && (decide (d.fs ≠ []) && (decide (d.fs.length ≤ 100) && decide (("self" : Str) ∉ d.fs))))) &&
  (((glB d.scope "super" && (isFree d.scope "__class__" && (isLoc d.scope "self" && isFun d.scope))) && (d.scope.names.all fun y => noCell y.2)) &&
  ((!d.scope.isCoroutine && (!d.scope.isGenerator && (d.fs.all fun f => isLoc d.scope f && !(f == ("__debug__" : Str))))) &&
  (jsB d.fs js && (match (d.params.posonlyargs ++ d.params.args).head? with | some ar => decide (ar.arg = ("self" : Str)) | none => false))))
theorem isLoc_ok {sc : Scope} {x : Str} (h : isLoc sc x = true) : sc.names.lookup x = some .local := by
  unfold isLoc at h
  split at h
  · assumption
  · cases h
theorem ev_form {p0 p1 p2 p3 p : Pos} {l : List PySem.Expr} (h : (p2.endLine == p3.line) = true) (env : Env) : eval (.Call (.Attribute (.Call (.Name "super" p0) [] [] p1) "__init__" p2) [.JoinedStr l p] [] p3) env = (do
      let ov ← attributeBase (.Call (.Name "super" p0) [] [] p1) "__init__" env (eval (.Call (.Name "super" p0) [] [] p1) env)
      standAt p2.atName
      let (f, first) ← holding [ov] (getMethod ov "__init__" (do return (← (pure (some false) : Sem (Option Bool))).getD true))
      callWith p3 f first (backTo p3 (starEach [.JoinedStr l p] env)) []) := by
  have e : ∀ few o, methodCallPos few o env p2 p3 = pure p3 := fun few o => by
    unfold methodCallPos
    rw [h, Bool.or_true]
    rfl
  show (do
    let ov ← attributeBase (.Call (.Name "super" p0) [] [] p1) "__init__" env (eval (.Call (.Name "super" p0) [] [] p1) env)
    standAt p2.atName
    methodCall (.Call (.Name "super" p0) [] [] p1) "__init__" p2 p3 env ov 1 (backTo p3 (starEach [.JoinedStr l p] env)) []) = _
  unfold methodCall
  simp only [e]
  rfl
theorem xc_of {P : Program} {K : PySem.W.Frag} {h : Heap} {mg : Str → Option Value} {F : Str} {d : XD} {js : PySem.Expr} {p0 p1 p2 p3 p4 : Pos} {as : List XC.Asg} (X : K.In h) (G : h.Ns mainGlobals mg) (hx : XB K F d = true) (ho : xObs K d.c = d.val)
    (hF : P.main.file = F) (htop : (P.main.scope.names.lookup ("super" : Str)).isSome = false) (hbody : d.body = XC.supSt js p0 p1 p2 p3 p4 :: as.map XC.Asg.st) (hp : (p2.endLine == p3.line) = true) (ht : xtB d js as = true)
    (hb : ∀ (s' : Shared) (dV kV doc pm : Value) (an : Option Addr) (cdv ct : Value) (cc x : Addr) (vs : List Value), dV = .none → vs.length = d.fs.length → BindsTo s' (PySem.W.ksFn "__init__" d.qual d.params d.body d.scope dV kV doc pm an cdv ct cc) ⟨.ref x :: vs, []⟩ (XC.bindsOf d.fs x vs)) :
    XcOk P K mg d.c d.fs := by
  simp only [XB, Bool.and_eq_true] at hx
  obtain ⟨x1, x2, x3, x4, x5, x6, x7, x8, x9, x10, x11, x12, x13, x14, x15, x16, x17, x18, x19, x20⟩ := hx
  simp only [xtB, Bool.and_eq_true] at ht
  obtain ⟨⟨t1, t2, t3, t4, t5⟩, ⟨⟨t6, t7, t8, t9⟩, t10⟩, ⟨t11, t12, t13⟩, t14, t15⟩ := ht
  have fnf : ∃ (oc : Value) (od : Option Addr) (dV kV doc pm : Value) (an : Option Addr) (ct : Value) (osl : Array (Option Value)), K.lookup (initA K d.c) = some ⟨oc, od, .func (PySem.W.ksFn "__init__" d.qual d.params d.body d.scope dV kV doc pm an (.ref (codeA K d.c)) ct (cellA K d.c)), osl⟩ ∧ dV = .none := by
    have e1 : codeA K d.c = codeA K d.c := rfl
    have e2 : cellA K d.c = cellA K d.c := rfl
    unfold xObs at ho
    unfold shapeB at x16
    conv at e1 => lhs; unfold codeA
    conv at e2 => lhs; unfold cellA
    cases q : K.lookup (initA K d.c) with
    | none => rw [q] at x16; cases x16
    | some o =>
      obtain ⟨oc, od, dt, osl⟩ := o
      rw [q] at x16 ho e1 e2
      cases dt with
      | func fd =>
        obtain ⟨n1, n2, n3, n4, n5, n6, n7, n8, n9, n10, n11, n12, n13, n14, n15⟩ := fd
        have ho2 : (some (n1, n2, n3, n4, n5, n6, n7.map (·.1), n15) : XV) = some (("__init__" : Str), d.qual, d.params, .stmts d.body, d.scope, mainGlobals, [("__class__" : Str)], builtinsNs) := ho
        simp only [Option.some.injEq, Prod.mk.injEq] at ho2
        obtain ⟨h1, h2, h3, h4, h5, h6, h7, h8⟩ := ho2
        subst h1 h2 h3 h4 h5 h6 h8
        cases n7 with
        | nil => cases h7
        | cons c7 r7 =>
          obtain ⟨y7, a7⟩ := c7
          cases r7 with
          | cons _ _ => simp at h7
          | nil =>
            have h7 : y7 = ("__class__" : Str) := by simpa using h7
            subst h7
            have e2 : a7 = cellA K d.c := e2
            cases n13 with
            | ref cda =>
              have e1 : cda = codeA K d.c := e1
              rw [← e1, ← e2]
              cases n8 with
              | none => exact ⟨oc, od, .none, n9, n10, n11, n12, n14, osl, rfl, rfl⟩
              | _ => cases x16
            | _ => cases x16
      | _ => cases x16
  obtain ⟨oc, od, dV, kV, doc, pm, an, ct, osl, hfn, hdv⟩ := fnf
  have code : ∃ (ccl : Value) (cdd : Option Addr) (vs : Array Value) (ccs : Array (Option Value)) (file : Str) (tf : Tok), K.lookup (codeA K d.c) = some ⟨ccl, cdd, .fields vs, ccs⟩ ∧ vs[2]? = some (.str file tf) ∧ ((P.main.file : Str) == file) = true := by
    unfold codeB at x14
    split at x14
    · rename_i ccl cdd vs ccs hq
      split at x14
      · rename_i file tf hv
        exact ⟨ccl, cdd, vs, ccs, file, tf, hq, hv, by rw [hF]; exact x14⟩
      · cases x14
    · cases x14
  have cell : ∃ (cl : Value) (cld : Option Addr) (csl : Array (Option Value)), K.lookup (cellA K d.c) = some ⟨cl, cld, .cell (some (.ref (He.ga K d.c))), csl⟩ := by
    unfold cellB at x15
    split at x15
    · rename_i cl cld C csl hq
      have e := of_decide_eq_true x15
      subst e
      exact ⟨cl, cld, csl, hq⟩
    · cases x15
  have jsf : ∃ (e1 e2 : PySem.Expr) (es : List PySem.Expr) (p : Pos), js = .JoinedStr (e1 :: e2 :: es) p ∧ XC.fsB d.fs (e1 :: e2 :: es) = true ∧ es.length ≤ 100 := by
    unfold jsB at t14
    split at t14
    · obtain ⟨a1, a2⟩ := Bool.and_eq_true_iff.mp t14
      exact ⟨_, _, _, _, rfl, a1, of_decide_eq_true a2⟩
    · cases t14
  have su : d.scope.names.lookup ("super" : Str) = some .globalImplicit := by
    unfold glB at t6
    split at t6
    · assumption
    · cases t6
  have fr : d.scope.names.lookup ("__class__" : Str) = some .free := by
    unfold isFree at t7
    split at t7
    · assumption
    · cases t7
  have fu : d.scope.kind = .function := by
    unfold isFun at t9
    split at t9
    · assumption
    · cases t9
  have flt : ∀ f ∈ d.fs, d.scope.names.lookup f = some .local ∧ (f == ("__debug__" : Str)) = false ∧ PySem.W.findIn K (.ref (He.ga K d.c)) f = some none := fun f hf => by
    have a := List.all_eq_true.mp t13 f hf
    obtain ⟨a1, a2⟩ := Bool.and_eq_true_iff.mp a
    exact ⟨isLoc_ok a1, by simpa using a2, He.eqO_ok (List.all_eq_true.mp x20 f hf)⟩
  refine ⟨He.ga K d.c, initA K d.c, cellA K d.c, codeA K d.c, d.qual, d.params, d.scope, js, p0, p1, p2, p3, p4, as, He.glo_ok X G x1, ?_⟩
  refine { T := { cls := clsB_ok x2, sa := He.eqO_ok x3, iC := He.eqO_ok x4, tI := of_decide_eq_true x5, kC := x6, exC := of_decide_eq_true x7, veC := of_decide_eq_true x8, tyC := of_decide_eq_true x9, selfC := of_decide_eq_true x10, sup := He.eqO_ok x11, opq := He.eqO_ok x12, fn := ⟨oc, od, dV, kV, doc, pm, an, ct, osl, by rw [← hbody]; exact hfn, x13, hdv⟩, code := code, cell := cell }, S := { su := su, cl := fr, se := isLoc_ok t8, fu := fu, ar := ?_, top := htop }, ga := He.eqO_ok x17, gg := He.eqO_ok x18, hd := x19, ef := of_decide_eq_true t1, nd := of_decide_eq_true t2, ne := of_decide_eq_true t3, lz := of_decide_eq_true t4, self := of_decide_eq_true t5, cell := ?_, co := by simpa using t11, gen := by simpa using t12, fl := flt, bind := ?_, js_ := jsf, star := ?_, ev := ?_ }
  · cases q : (d.params.posonlyargs ++ d.params.args).head? with
    | none => rw [q] at t15; cases t15
    | some ar => rw [q] at t15; exact ⟨ar, rfl, of_decide_eq_true t15⟩
  · intro y hy e
    have a := List.all_eq_true.mp t10 y hy
    rw [e] at a
    cases a
  · intro s' dV kV doc pm an ct x vs hdv hl
    have := hb s' dV kV doc pm an (.ref (codeA K d.c)) ct (cellA K d.c) x vs hdv hl
    rw [hbody] at this
    exact this
  · intro env
    obtain ⟨e1, e2, es, p, e, _⟩ := jsf
    rw [e]
    rfl
  · obtain ⟨e1, e2, es, p, e, _⟩ := jsf
    rw [e]
    exact ⟨(do return (← (pure (some false) : Sem (Option Bool))).getD true), fun L => ev_form hp _⟩
/-! ### the parts of a class's text -/
def initSt (j : Nat) (st : PySem.Stmt) : PySem.Stmt := match st with
  | .ClassDef _ _ _ body _ _ _ _ _ _ _ => body.getD j (.Pass ⟨0, 0, 0, 0⟩)
  | _ => .Pass ⟨0, 0, 0, 0⟩
abbrev SupT : Type := PySem.Expr × Pos × Pos × Pos × Pos × Pos
def supOf (b : List PySem.Stmt) : SupT := match b with
  | .Expr (.Call (.Attribute (.Call (.Name _ p0) [] [] p1) _ p2) [js] [] p3) p4 :: _ => (js, p0, p1, p2, p3, p4)
  | _ => (.Constant .none 0 ⟨0, 0, 0, 0⟩, ⟨0, 0, 0, 0⟩, ⟨0, 0, 0, 0⟩, ⟨0, 0, 0, 0⟩, ⟨0, 0, 0, 0⟩, ⟨0, 0, 0, 0⟩)
def asgsOf (b : List PySem.Stmt) : List XC.Asg := (b.drop 1).filterMap fun st => match st with
  | .Assign [.Attribute (.Name _ q1) f q2] (.Name _ q3) q4 => some ⟨f, q1, q2, q3, q4⟩
  | _ => none
def xdOf (c qual : Str) (st : PySem.Stmt) (fs : List Str) : XD := ⟨c, qual, L2.defArgs st, L2.defBody st, L2.defScope st, fs⟩
theorem xc_at {P : Program} {K : PySem.W.Frag} {h : Heap} {mg : Str → Option Value} {F c qual : Str} {st : PySem.Stmt} {fs : List Str} (X : K.In h) (G : h.Ns mainGlobals mg) (hx : XB K F (xdOf c qual st fs) = true ∧ xObs K c = (xdOf c qual st fs).val)
    (hF : P.main.file = F) (htop : (P.main.scope.names.lookup ("super" : Str)).isSome = false)
    (hbody : L2.defBody st = XC.supSt (supOf (L2.defBody st)).1 (supOf (L2.defBody st)).2.1 (supOf (L2.defBody st)).2.2.1 (supOf (L2.defBody st)).2.2.2.1 (supOf (L2.defBody st)).2.2.2.2.1 (supOf (L2.defBody st)).2.2.2.2.2 :: (asgsOf (L2.defBody st)).map XC.Asg.st)
    (hp : ((supOf (L2.defBody st)).2.2.2.1.endLine == (supOf (L2.defBody st)).2.2.2.2.1.line) = true) (ht : xtB (xdOf c qual st fs) (supOf (L2.defBody st)).1 (asgsOf (L2.defBody st)) = true)
    (hb : ∀ (s' : Shared) (dV kV doc pm : Value) (an : Option Addr) (cdv ct : Value) (cc x : Addr) (vs : List Value), dV = .none → vs.length = fs.length → BindsTo s' (PySem.W.ksFn "__init__" qual (L2.defArgs st) (L2.defBody st) (L2.defScope st) dV kV doc pm an cdv ct cc) ⟨.ref x :: vs, []⟩ (XC.bindsOf fs x vs)) :
    XcOk P K mg c fs := xc_of (d := xdOf c qual st fs) X G hx.1 hx.2 hF htop hbody hp ht hb
/-! ### the hook -/
def asX (g : Addr → Option Obj) : Nat → List Addr
  | 0 => [mainGlobals, cStatics]
  | n + 1 => He.growD g (asX g n)
def emB (K : PySem.W.Frag) (e : Str × Str × Bool) : Bool := gloB K e.1 && (gloB K e.2.1 && decide (PySem.W.exmOne K (.ref (He.ga K e.1)) (.ref (He.ga K e.2.1)) = some e.2.2))
/-- the module's name is a tuple of whole numbers -/
def tpB (K : PySem.W.Frag) (t : Str × List Int) : Bool := gloB K t.1 && He.tupB K t.1 (t.2.map He.Dv.int)
abbrev AlX : Type := He.AlD × (Bool × List XV)
def obsX (F : Str) (fa : List He.Fa) (fn : List He.DefD) (xd : List XD) (em : List (Str × Str × Bool)) (tp : List (Str × List Int)) (K : PySem.W.Frag) : AlX := (He.obsD fa fn K, ((xd.all fun d => XB K F d) && ((em.all fun e => emB K e) && (tp.all fun t => tpB K t)), xd.map fun d => xObs K d.c))
def valX (fn : List He.DefD) (xd : List XD) : AlX := (He.valD fn, (true, xd.map XD.val))
def SaysX (F : Str) (fa : List He.Fa) (fn : List He.DefD) (xd : List XD) (em : List (Str × Str × Bool)) (tp : List (Str × List Int)) (K : PySem.W.Frag) : Prop := obsX F fa fn xd em tp K = valX fn xd
def obsXG (n : Nat) (F : Str) (fa : List He.Fa) (fn : List He.DefD) (xd : List XD) (em : List (Str × Str × Bool)) (tp : List (Str × List Int)) (g : Addr → Option Obj) : AlX := obsX F fa fn xd em tp (He.frG g (asX g n))
def hookX (n : Nat) (F : Str) (fa : List He.Fa) (fn : List He.DefD) (xd : List XD) (em : List (Str × Str × Bool)) (tp : List (Str × List Int)) : PySem.W.Hook where
  α := AlX
  obs := fun s => obsXG n F fa fn xd em tp s.heap.get?
  val := fun _ => valX fn xd
  says := fun _ h => ∃ K : PySem.W.Frag, K.In h ∧ SaysX F fa fn xd em tp K
  of := fun _ _ e => ⟨_, He.frG_in, e⟩
  keeps := fun _ _ _ ⟨K, hK, c⟩ k => ⟨K, PySem.W.Frag.In.keeps hK k, c⟩
theorem obsXG_eq {n : Nat} {F : Str} {fa : List He.Fa} {fn : List He.DefD} {xd : List XD} {em : List (Str × Str × Bool)} {tp : List (Str × List Int)} {g : Addr → Option Obj} {s : Shared} (h : ∀ a, g a = s.heap.get? a) : obsXG n F fa fn xd em tp g = (hookX n F fa fn xd em tp).obs s := by
  have e : g = s.heap.get? := funext h
  rw [e] <;> rfl
section
variable {F : Str} {fa : List He.Fa} {fn : List He.DefD} {xd : List XD} {em : List (Str × Str × Bool)} {tp : List (Str × List Int)} {K : PySem.W.Frag}
theorem SaysX.d (c : SaysX F fa fn xd em tp K) : He.SaysD fa fn K := congrArg (fun z : AlX => z.1) c
theorem SaysX.x (c : SaysX F fa fn xd em tp K) (i : Nat) {d : XD} (h : xd[i]? = some d := by rfl) : XB K F d = true ∧ xObs K d.c = d.val := by
  have c1 := (He.ba (show ((xd.all fun d => XB K F d) && ((em.all fun e => emB K e) && (tp.all fun t => tpB K t))) = true from congrArg (fun z : AlX => z.2.1) c)).1
  have e : xd.map (fun d => xObs K d.c) = xd.map XD.val := congrArg (fun z : AlX => z.2.2) c
  have e2 : (xd.map fun d => xObs K d.c)[i]? = (xd.map XD.val)[i]? := by rw [e]
  rw [List.getElem?_map, List.getElem?_map, h] at e2
  exact ⟨List.all_eq_true.mp c1 d (List.mem_of_getElem? h), Option.some.inj e2⟩
theorem SaysX.exm {h : Heap} {mg : Str → Option Value} (X : K.In h) (G : h.Ns mainGlobals mg) (c : SaysX F fa fn xd em tp K) (i : Nat) {x y : Str} {b : Bool} (hi : em[i]? = some (x, y, b) := by rfl) : ExmOk K mg x y b := by
  have c1 := (He.ba (show ((xd.all fun d => XB K F d) && ((em.all fun e => emB K e) && (tp.all fun t => tpB K t))) = true from congrArg (fun z : AlX => z.2.1) c)).2
  have e := List.all_eq_true.mp (He.ba c1).1 _ (List.mem_of_getElem? hi)
  obtain ⟨e1, e⟩ := He.ba e
  obtain ⟨e2, e3⟩ := He.ba e
  exact ⟨_, _, He.glo_ok X G e1, He.glo_ok X G e2, of_decide_eq_true e3⟩
theorem SaysX.tup {h : Heap} {mg : Str → Option Value} (X : K.In h) (G : h.Ns mainGlobals mg) (c : SaysX F fa fn xd em tp K) (i : Nat) {x : Str} {ns : List Int} (hi : tp[i]? = some (x, ns) := by rfl) : GlobOk K mg x (.con (ns.map .int)) := by
  have c1 := (He.ba (show ((xd.all fun d => XB K F d) && ((em.all fun e => emB K e) && (tp.all fun t => tpB K t))) = true from congrArg (fun z : AlX => z.2.1) c)).2
  have e := List.all_eq_true.mp (He.ba c1).2 _ (List.mem_of_getElem? hi)
  obtain ⟨e1, e2⟩ := He.ba e
  refine ⟨_, .ref (He.ga K x), He.glo_ok X G e1, rfl, fun hid ρ H => ?_⟩
  have e3 := He.tupB_ok e2 noH
  have e4 : (ns.map He.Dv.int).map (He.Dv.v K) = ns.map V.int := by rw [List.map_map]; rfl
  rw [e4] at e3
  exact .con e3 (rep_ints ns)
/-- the module's numbers, texts, tuples -/
def GDt (is : List (Str × Gv)) (tp : List (Str × List Int)) : Str → D → Prop := fun x d => GDi is x d ∨ ∃ ns, (x, ns) ∈ tp ∧ d = .con (ns.map .int)
theorem SaysX.gd {is : List (Str × Gv)} {xs : List Str} {h : Heap} {mg : Str → Option Value} (X : K.In h) (G : h.Ns mainGlobals mg) (c : SaysX F (fa0 xs is) fn xd em tp K) : ∀ x d, GDt is tp x d → GlobOk K mg x d := fun x d hd => by
  rcases hd with hd | ⟨ns, hm, rfl⟩
  · exact fact_int X G c.d x d hd
  · obtain ⟨i, hl, hi⟩ := List.mem_iff_getElem.mp hm
    exact c.tup X G i (by rw [List.getElem?_eq_getElem hl, hi])
end
end MI
namespace MI.K
open PySem PySem.Spec L2
def c_is_within : CSs :=
 (.cons (.ret (.band (.cons (.bi .isInt (.cons (.var 0) .nil)) (.cons (.not (.bi .isBool (.cons (.var 0) .nil))) (.cons (.cmp .le (.var 1) (.var 0)) (.cons (.cmp .le (.var 0) (.var 2)) .nil))))))
 .nil)
def f_is_within : Fn := fnOf 3 3 c_is_within
def c_check_clock : CSs :=
 (.cons (.asg (.tup [2, 3, 4, 5, 6]) (.var 1))
 (.cons (.ifs (.not (.call "is_within" f_is_within (.cons (.var 2) (.cons (.int 0) (.cons (.bin .sub (.bi .len (.cons (.ix (.var 0) (.int 2)) .nil)) (.int 1)) .nil)))))
 (.cons (.rais "BadClock" ["word"] (.cons (.str "race") .nil))
 .nil)
 .nil)
 (.cons (.ifs (.not (.call "is_within" f_is_within (.cons (.var 3) (.cons (.int 0) (.cons (.bin .sub (.bi .len (.cons (.ix (.var 0) (.int 0)) .nil)) (.int 1)) .nil)))))
 (.cons (.rais "BadClock" ["word"] (.cons (.str "loft") .nil))
 .nil)
 .nil)
 (.cons (.ifs (.not (.call "is_within" f_is_within (.cons (.var 4) (.cons (.ix (.glob "MINUTE" (.con [(.int 0), (.int 9999)])) (.int 0)) (.cons (.ix (.glob "MINUTE" (.con [(.int 0), (.int 9999)])) (.int 1)) .nil)))))
 (.cons (.rais "BadClock" ["word"] (.cons (.str "begin") .nil))
 .nil)
 .nil)
 (.cons (.ifs (.not (.call "is_within" f_is_within (.cons (.var 5) (.cons (.bin .add (.var 4) (.int 1)) (.cons (.ix (.glob "MINUTE" (.con [(.int 0), (.int 9999)])) (.int 1)) .nil)))))
 (.cons (.rais "BadClock" ["word"] (.cons (.str "end") .nil))
 .nil)
 .nil)
 (.cons (.ifs (.not (.call "is_within" f_is_within (.cons (.var 6) (.cons (.bin .add (.var 4) (.int 1)) (.cons (.ix (.glob "MINUTE" (.con [(.int 0), (.int 9999)])) (.int 1)) .nil)))))
 (.cons (.rais "BadClock" ["word"] (.cons (.str "shown") .nil))
 .nil)
 .nil)
 .nil))))))
def f_check_clock : Fn := fnOf 2 7 c_check_clock
def c_Lcell : CSs :=
 (.cons (.ifs (.cmp .lt (.var 1) (.bi .len (.cons (.var 0) .nil)))
 (.cons (.ret (.ix (.var 0) (.var 1)))
 .nil)
 .nil)
 (.cons (.ret (.int 0))
 .nil))
def f_Lcell : Fn := fnOf 2 2 c_Lcell
def b_Ldigits_1 : CSs :=
 (.cons (.ifs (.cmp .gt (.var 5) (.int 0))
 (.cons (.app (.var 3) (.bin .mod (.bi .int (.cons (.var 5) .nil)) (.int 1000)))
 (.cons (.asg (.name 5) (.bin .fdiv (.var 5) (.int 1000)))
 .nil))
 .nil)
 .nil)
def b_Ldigits_2 : CSs :=
 (.cons (.asg (.name 7) (.bin .mod (.bi .int (.cons (.bin .add (.bin .add (.bin .mul (.var 7) (.int 16807)) (.bin .mul (.int 7) (.var 6))) (.int 1)) .nil)) (.int 2147483647)))
 (.cons (.app (.var 3) (.bin .mod (.bi .int (.cons (.bin .fdiv (.var 7) (.int 997)) .nil)) (.int 1000)))
 .nil))
def b_Ldigits_3 : CSs :=
 (.cons (.asg (.name 5) (.call "_law_cell" f_Lcell (.cons (.var 0) (.cons (.var 4) .nil))))
 (.cons (.ifs (.cmp .lt (.var 5) (.int 0))
 (.cons (.asg (.name 5) (.bin .sub (.int 1) (.bin .mul (.int 2) (.var 5))))
 .nil)
 .nil)
 (.cons (.ifs (.cmp .ge (.var 5) (.bin .pow (.int 10) (.int 18)))
 (.cons (.for_ (.name 6) (.rng1 (.int 60)) b_Ldigits_1)
 .nil)
 (.cons (.asg (.name 7) (.bin .mod (.bi .int (.cons (.bin .add (.bin .add (.bin .mul (.var 5) (.int 48271)) (.bin .mul (.var 4) (.int 69621))) (.int 11)) .nil)) (.int 2147483647)))
 (.cons (.for_ (.name 6) (.rng1 (.int 12)) b_Ldigits_2)
 .nil)))
 .nil)))
def c_Ldigits : CSs :=
 (.cons (.asg (.name 3) (.new true (.disp .nil)))
 (.cons (.for_ (.name 4) (.rng2 (.var 1) (.var 2)) b_Ldigits_3)
 (.cons (.ret (.frz 3))
 .nil)))
def f_Ldigits : Fn := fnOf 3 8 c_Ldigits
def c_Ldraw : CSs :=
 (.cons (.asg (.name 2) (.ix (.var 0) (.int 1)))
 (.cons (.put (.var 0) (.int 1) (.bin .add (.var 2) (.int 1)))
 (.cons (.ifs (.cmp .lt (.var 2) (.bi .len (.cons (.ix (.var 0) (.int 0)) .nil)))
 (.cons (.ret (.bin .mod (.bi .int (.cons (.ix (.ix (.var 0) (.int 0)) (.var 2)) .nil)) (.var 1)))
 .nil)
 .nil)
 (.cons (.ret (.int 0))
 .nil))))
def f_Ldraw : Fn := fnOf 2 3 c_Ldraw
def c_h_Lsame : CSs :=
 (.cons (.ifs (.bor (.cons (.bi .isList (.cons (.var 1) .nil)) (.cons (.bi .isTuple (.cons (.var 1) .nil)) .nil))) (.cons .fail
 (.cons .fail
 (.cons .fail
 (.cons (.ret (.bl true))
 .nil)))) .nil)
 (.cons (.ifs (.isN (.var 1)) (.cons (.ret (.isN (.var 0)))
 .nil) .nil)
 (.cons (.ifs (.bi .isBool (.cons (.var 1) .nil)) (.cons (.ret (.band (.cons (.bi .isBool (.cons (.var 0) .nil)) (.cons (.cmp .eq (.var 0) (.var 1)) .nil))))
 .nil) .nil)
 (.cons (.ifs (.bi .isStr (.cons (.var 1) .nil)) (.cons (.ret (.band (.cons (.bi .isStr (.cons (.var 0) .nil)) (.cons (.cmp .eq (.var 0) (.var 1)) .nil))))
 .nil) .nil)
 (.cons (.ret (.band (.cons (.bi .isInt (.cons (.var 0) .nil)) (.cons (.not (.bi .isBool (.cons (.var 0) .nil))) (.cons (.cmp .eq (.var 0) (.var 1)) .nil)))))
 .nil)))))
def f_h_Lsame : Fn := fnOf 2 3 c_h_Lsame
def b_Lsame_1 (g : Fn) : CSs :=
 (.cons (.ifs (.not (.call "_law_same" g (.cons (.ix (.var 0) (.var 2)) (.cons (.ix (.var 1) (.var 2)) .nil))))
 (.cons (.ret (.bl false))
 .nil)
 .nil)
 .nil)
def c_Lsame (g : Fn) : CSs :=
 (.cons (.ifs (.bor (.cons (.bi .isList (.cons (.var 1) .nil)) (.cons (.bi .isTuple (.cons (.var 1) .nil)) .nil)))
 (.cons (.ifs (.bor (.cons (.cmp .ne (.bi .isList (.cons (.var 1) .nil)) (.bi .isList (.cons (.var 0) .nil))) (.cons (.cmp .ne (.bi .isTuple (.cons (.var 1) .nil)) (.bi .isTuple (.cons (.var 0) .nil))) .nil)))
 (.cons (.ret (.bl false))
 .nil)
 .nil)
 (.cons (.ifs (.cmp .ne (.bi .len (.cons (.var 0) .nil)) (.bi .len (.cons (.var 1) .nil)))
 (.cons (.ret (.bl false))
 .nil)
 .nil)
 (.cons (.for_ (.name 2) (.rng1 (.bi .len (.cons (.var 1) .nil))) (b_Lsame_1 g))
 (.cons (.ret (.bl true))
 .nil))))
 .nil)
 (.cons (.ifs (.isN (.var 1))
 (.cons (.ret (.isN (.var 0)))
 .nil)
 .nil)
 (.cons (.ifs (.bi .isBool (.cons (.var 1) .nil))
 (.cons (.ret (.band (.cons (.bi .isBool (.cons (.var 0) .nil)) (.cons (.cmp .eq (.var 0) (.var 1)) .nil))))
 .nil)
 .nil)
 (.cons (.ifs (.bi .isStr (.cons (.var 1) .nil))
 (.cons (.ret (.band (.cons (.bi .isStr (.cons (.var 0) .nil)) (.cons (.cmp .eq (.var 0) (.var 1)) .nil))))
 .nil)
 .nil)
 (.cons (.ret (.band (.cons (.bi .isInt (.cons (.var 0) .nil)) (.cons (.not (.bi .isBool (.cons (.var 0) .nil))) (.cons (.cmp .eq (.var 0) (.var 1)) .nil)))))
 .nil)))))
def f_Lsame : Nat → Fn
  | 0 => fun _ _ => .stuck
  | n + 1 => fnOf 2 3 (c_Lsame (f_Lsame n))
def b_Lrun_1 : CSs :=
 (.cons (.asg (.name 3) (.bin .add (.var 3) (.ix (.var 2) (.call "_law_draw" f_Ldraw (.cons (.var 0) (.cons (.bi .len (.cons (.var 2) .nil)) .nil))))))
 .nil)
def c_Lrun : CSs :=
 (.cons (.asg (.name 3) (.str ""))
 (.cons (.for_ (.name 4) (.rng1 (.var 1)) b_Lrun_1)
 (.cons (.ret (.var 3))
 .nil)))
def f_Lrun : Fn := fnOf 3 5 c_Lrun
def b_Lword_1 : CSs :=
 (.cons (.ifs (.bor (.cons (.cmp .inn (.var 2) (.var 1)) (.cons (.cmp .inn (.var 2) (.new false (.disp (.cons (.str "loft") (.cons (.str "at") (.cons (.str "bird") (.cons (.str "of") (.cons (.str "year") (.cons (.str "race") (.cons (.str "from") (.cons (.str "start") (.cons (.str "close") (.cons (.str "dark") (.cons (.str "to") .nil)))))))))))))) .nil)))
 (.cons (.asg (.name 2) (.bin .add (.sl (.var 2) .none (.some (.int 7))) (.ix (.str "abcdefghijkl") (.var 3))))
 .nil)
 .nil)
 .nil)
def c_Lword : CSs :=
 (.cons (.asg (.name 2) (.call "_law_run" f_Lrun (.cons (.var 0) (.cons (.bin .add (.int 1) (.call "_law_draw" f_Ldraw (.cons (.var 0) (.cons (.int 6) .nil)))) (.cons (.str "abcdefghijklmnopqrstuvwxyz") .nil)))))
 (.cons (.for_ (.name 3) (.rng1 (.int 12)) b_Lword_1)
 (.cons (.ret (.var 2))
 .nil)))
def f_Lword : Fn := fnOf 2 4 c_Lword
def c_Lnumber : CSs :=
 (.cons (.ret (.bin .sub (.bin .mod (.bin .add (.bin .mul (.call "_law_draw" f_Ldraw (.cons (.var 0) (.cons (.int 1000) .nil))) (.int 1000)) (.call "_law_draw" f_Ldraw (.cons (.var 0) (.cons (.int 1000) .nil)))) (.bin .add (.bin .mul (.int 2) (.var 1)) (.int 1))) (.var 1)))
 .nil)
def f_Lnumber : Fn := fnOf 2 2 c_Lnumber
def b_Lclub_1 : CSs :=
 (.cons (.app (.var 4) (.call "_law_word" f_Lword (.cons (.var 0) (.cons (.var 4) .nil))))
 (.cons (.app (.ix (.var 5) (.int 0)) (.tup (.cons (.ix (.var 4) (.neg (.int 1))) (.cons (.call "_law_number" f_Lnumber (.cons (.var 0) (.cons (.var 6) .nil))) (.cons (.call "_law_number" f_Lnumber (.cons (.var 0) (.cons (.var 6) .nil))) .nil)))))
 .nil))
def b_Lclub_2 : CSs :=
 (.cons (.asg (.name 10) (.bin .add (.int 1) (.call "_law_draw" f_Ldraw (.cons (.var 0) (.cons (.int 999) .nil)))))
 (.cons (.ifs (.cmp .notin (.var 10) (.var 8))
 (.cons (.app (.var 8) (.var 10))
 (.cons (.app (.ix (.var 5) (.int 1)) (.tup (.cons (.var 10) (.cons (.call "_law_draw" f_Ldraw (.cons (.var 0) (.cons (.bi .len (.cons (.ix (.var 5) (.int 0)) .nil)) .nil))) (.cons (.call "_law_draw" f_Ldraw (.cons (.var 0) (.cons (.int 100) .nil))) .nil)))))
 .nil))
 .nil)
 .nil))
def e_Lclub_1 : CE :=
 (.sl (.var 13) (.some (.int 1)) .none)
def b_Lclub_3 : CSs :=
 (.cons (.asg (.name 11) (.call "_law_number" f_Lnumber (.cons (.var 0) (.cons (.var 6) .nil))))
 (.cons (.asg (.name 12) (.call "_law_number" f_Lnumber (.cons (.var 0) (.cons (.var 6) .nil))))
 (.cons (.ifs (.cmp .notin (.tup (.cons (.var 11) (.cons (.var 12) .nil))) (.var 9))
 (.cons (.app (.var 4) (.call "_law_word" f_Lword (.cons (.var 0) (.cons (.var 4) .nil))))
 (.cons (.asg (.name 14) (.ix (.new false (.disp (.cons (.call "_law_draw" f_Ldraw (.cons (.var 0) (.cons (.int 1000) .nil))) (.cons (.bin .mul (.int 3) (.call "_law_draw" f_Ldraw (.cons (.var 0) (.cons (.int 1000) .nil)))) .nil)))) (.call "_law_draw" f_Ldraw (.cons (.var 0) (.cons (.int 2) .nil)))))
 (.cons (.asg (.name 15) (.bin .add (.bin .add (.var 14) (.int 1)) (.bin .mul (.call "_law_draw" f_Ldraw (.cons (.var 0) (.cons (.ix (.new false (.disp (.cons (.int 30) (.cons (.int 1000) .nil)))) (.call "_law_draw" f_Ldraw (.cons (.var 0) (.cons (.int 2) .nil)))) .nil))) (.ix (.new false (.disp (.cons (.int 1) (.cons (.int 4) .nil)))) (.call "_law_draw" f_Ldraw (.cons (.var 0) (.cons (.int 2) .nil)))))))
 (.cons (.asg (.name 16) (.bin .add (.call "_law_draw" f_Ldraw (.cons (.var 0) (.cons (.int 1000) .nil))) (.bin .mul (.int 400) (.call "_law_draw" f_Ldraw (.cons (.var 0) (.cons (.int 2) .nil))))))
 (.cons (.asg (.name 17) (.ix (.new false (.disp (.cons (.call "_law_draw" f_Ldraw (.cons (.var 0) (.cons (.int 1000) .nil))) (.cons (.var 16) .nil)))) (.bin .fdiv (.call "_law_draw" f_Ldraw (.cons (.var 0) (.cons (.int 6) .nil))) (.int 5))))
 (.cons (.app (.ix (.var 5) (.int 2)) (.tup (.cons (.ix (.var 4) (.neg (.int 1))) (.cons (.var 11) (.cons (.var 12) (.cons (.var 14) (.cons (.var 15) (.cons (.var 16) (.cons (.var 17) .nil)))))))))
 .nil))))))
 .nil)
 .nil)))
def c_Lclub : CSs :=
 (.cons (.asg (.name 4) (.new true (.disp .nil)))
 (.cons (.asg (.name 5) (.new false (.disp (.cons (.new true (.disp .nil)) (.cons (.new true (.disp .nil)) (.cons (.new true (.disp .nil)) .nil))))))
 (.cons (.asg (.name 6) (.ix (.new false (.disp (.cons (.int 3) (.cons (.int 50) (.cons (.int 9999) .nil))))) (.call "_law_draw" f_Ldraw (.cons (.var 0) (.cons (.int 3) .nil)))))
 (.cons (.for_ (.name 7) (.rng1 (.bin .add (.int 1) (.call "_law_draw" f_Ldraw (.cons (.var 0) (.cons (.var 1) .nil))))) b_Lclub_1)
 (.cons (.asg (.name 8) (.new true (.disp .nil)))
 (.cons (.for_ (.name 7) (.rng1 (.call "_law_draw" f_Ldraw (.cons (.var 0) (.cons (.bin .add (.var 2) (.int 1)) .nil)))) b_Lclub_2)
 (.cons (.asg (.name 9) (.new false (.comp [("_law_loft", 13)] (.name 13) (.cellE (.ix (.var 5) (.int 0))) .none e_Lclub_1)))
 (.cons (.for_ (.name 7) (.rng1 (.bin .add (.int 1) (.call "_law_draw" f_Ldraw (.cons (.var 0) (.cons (.var 3) .nil))))) b_Lclub_3)
 (.cons (.ret (.tup (.cons (.bi .tuple (.cons (.ix (.var 5) (.int 0)) .nil)) (.cons (.bi .tuple (.cons (.ix (.var 5) (.int 1)) .nil)) (.cons (.bi .tuple (.cons (.ix (.var 5) (.int 2)) .nil)) .nil)))))
 .nil)))))))))
def f_Lclub : Fn := fnOf 4 18 c_Lclub
def c_Lclock : CSs :=
 (.cons (.asg (.name 4) (.bi .max2 (.cons (.int 0) (.cons (.bin .sub (.ix (.ix (.ix (.var 1) (.int 2)) (.var 2)) (.int 3)) (.call "_law_draw" f_Ldraw (.cons (.var 0) (.cons (.int 400) .nil)))) .nil))))
 (.cons (.asg (.name 5) (.bin .add (.bin .add (.var 4) (.int 1)) (.bin .mul (.call "_law_draw" f_Ldraw (.cons (.var 0) (.cons (.int 1000) .nil))) (.ix (.new false (.disp (.cons (.int 1) (.cons (.int 5) .nil)))) (.call "_law_draw" f_Ldraw (.cons (.var 0) (.cons (.int 2) .nil)))))))
 (.cons (.asg (.name 6) (.ix (.new false (.disp (.cons (.int 0) (.cons (.bin .sub (.call "_law_draw" f_Ldraw (.cons (.var 0) (.cons (.int 21) .nil))) (.int 10)) (.cons (.bin .sub (.call "_law_draw" f_Ldraw (.cons (.var 0) (.cons (.int 999) .nil))) (.int 400)) .nil))))) (.call "_law_draw" f_Ldraw (.cons (.var 0) (.cons (.int 3) .nil)))))
 (.cons (.asg (.name 7) (.bi .max2 (.cons (.bin .add (.var 4) (.int 1)) (.cons (.bi .min2 (.cons (.int 9999) (.cons (.bin .add (.var 5) (.var 6)) .nil))) .nil))))
 (.cons (.ret (.tup (.cons (.var 2) (.cons (.var 3) (.cons (.var 4) (.cons (.bi .min2 (.cons (.int 9999) (.cons (.var 5) .nil))) (.cons (.var 7) .nil)))))))
 .nil)))))
def f_Lclock : Fn := fnOf 4 8 c_Lclock
def c_Lis_number : CSs :=
 (.cons (.ret (.band (.cons (.bi .isInt (.cons (.var 0) .nil)) (.cons (.not (.bi .isBool (.cons (.var 0) .nil))) (.cons (.chain .le .le (.var 1) (.var 0) (.var 2)) .nil)))))
 .nil)
def f_Lis_number : Fn := fnOf 3 3 c_Lis_number
def c_Ldue : CSs :=
 (.cons (.ifs (.not (.call "_law_is_number" f_Lis_number (.cons (.ix (.var 1) (.int 0)) (.cons (.int 0) (.cons (.bin .sub (.bi .len (.cons (.ix (.var 0) (.int 2)) .nil)) (.int 1)) .nil)))))
 (.cons (.ret (.str "race"))
 .nil)
 .nil)
 (.cons (.ifs (.not (.call "_law_is_number" f_Lis_number (.cons (.ix (.var 1) (.int 1)) (.cons (.int 0) (.cons (.bin .sub (.bi .len (.cons (.ix (.var 0) (.int 0)) .nil)) (.int 1)) .nil)))))
 (.cons (.ret (.str "loft"))
 .nil)
 .nil)
 (.cons (.ifs (.not (.call "_law_is_number" f_Lis_number (.cons (.ix (.var 1) (.int 2)) (.cons (.int 0) (.cons (.int 9999) .nil)))))
 (.cons (.ret (.str "begin"))
 .nil)
 .nil)
 (.cons (.ifs (.not (.call "_law_is_number" f_Lis_number (.cons (.ix (.var 1) (.int 3)) (.cons (.bin .add (.ix (.var 1) (.int 2)) (.int 1)) (.cons (.int 9999) .nil)))))
 (.cons (.ret (.str "end"))
 .nil)
 .nil)
 (.cons (.ifs (.not (.call "_law_is_number" f_Lis_number (.cons (.ix (.var 1) (.int 4)) (.cons (.bin .add (.ix (.var 1) (.int 2)) (.int 1)) (.cons (.int 9999) .nil)))))
 (.cons (.ret (.str "shown"))
 .nil)
 .nil)
 (.cons (.ret .non)
 .nil))))))
def f_Ldue : Fn := fnOf 2 2 c_Ldue
def b_law_1 : CSs :=
 (.cons (.asg (.name 7) (.call "_law_draw" f_Ldraw (.cons (.var 1) (.cons (.int 5) .nil))))
 (.cons (.asg (.name 8) (.new false (.disp (.cons (.int 0) (.cons (.neg (.int 1)) (.cons (.int 1) (.cons (.int 9999) (.cons (.int 10000) (.cons (.bl true) (.cons (.bl false) (.cons .non (.cons (.str "1") (.cons (.tup (.cons (.int 1) .nil)) (.cons (.bi .len (.cons (.ix (.var 2) (.int 2)) .nil)) (.cons (.bi .len (.cons (.ix (.var 2) (.int 0)) .nil)) (.cons (.ix (.var 3) (.int 2)) (.cons (.int 5) .nil)))))))))))))))))
 (.cons (.asg (.name 3) (.bin .add (.bin .add (.sl (.var 3) .none (.some (.var 7))) (.tup (.cons (.ix (.var 8) (.call "_law_draw" f_Ldraw (.cons (.var 1) (.cons (.int 14) .nil)))) .nil))) (.sl (.var 3) (.some (.bin .add (.var 7) (.int 1))) .none)))
 .nil)))
def b_law_2 : CSs :=
 (.cons (.asg (.name 9) (.call "check_clock" f_check_clock (.cons (.var 2) (.cons (.var 3) .nil))))
 .nil)
def c_law : CSs :=
 (.cons (.asg (.name 1) (.new true (.disp (.cons (.call "_law_digits" f_Ldigits (.cons (.var 0) (.cons (.int 0) (.cons (.int 63) .nil)))) (.cons (.int 0) .nil)))))
 (.cons (.asg (.name 2) (.call "_law_club" f_Lclub (.cons (.var 1) (.cons (.int 3) (.cons (.int 0) (.cons (.int 3) .nil))))))
 (.cons (.ifs (.cmp .eq (.bi .len (.cons (.ix (.var 2) (.int 2)) .nil)) (.int 0))
 (.cons (.ret (.bl true))
 .nil)
 .nil)
 (.cons (.asg (.name 3) (.call "_law_clock" f_Lclock (.cons (.var 1) (.cons (.var 2) (.cons (.call "_law_draw" f_Ldraw (.cons (.var 1) (.cons (.bi .len (.cons (.ix (.var 2) (.int 2)) .nil)) .nil))) (.cons (.call "_law_draw" f_Ldraw (.cons (.var 1) (.cons (.bi .len (.cons (.ix (.var 2) (.int 0)) .nil)) .nil))) .nil))))))
 (.cons (.ifs (.notN (.call "check_clock" f_check_clock (.cons (.var 2) (.cons (.var 3) .nil))))
 (.cons (.ret (.bl false))
 .nil)
 .nil)
 (.cons (.for_ (.name 4) (.rng1 (.bin .add (.int 1) (.call "_law_draw" f_Ldraw (.cons (.var 1) (.cons (.int 2) .nil))))) b_law_1)
 (.cons (.asg (.name 5) (.call "_law_due" f_Ldue (.cons (.var 2) (.cons (.var 3) .nil))))
 (.cons (.try_ b_law_2 "BadClock" ["BadClock"] [] (some 6) ["word"] (.retC "_law_same" f_h_Lsame [(.fld "word"), (.var 5)]))
 (.cons (.ret (.band (.cons (.isN (.var 9)) (.cons (.isN (.var 5)) .nil))))
 .nil)))))))))
def f_law : Fn := fnOf 1 10 c_law
end MI.K
set_option exponentiation.threshold 5000
namespace MI.K
open PySem PySem.Spec L2
/-! ### sizes -/
theorem log2_lt {n k : Nat} (h : n < 2 ^ k) (hk : 0 < k) : n.log2 < k := by
  by_cases h0 : n = 0
  · subst h0; simpa using hk
  · exact (Nat.log2_lt h0).mpr h
theorem div_ok {j : Int} {k : Nat} (h : j.natAbs < 2 ^ k) (hk : 0 < k) (hb : k ≤ 9000) : divOk j = true := by
  have := log2_lt h hk
  exact decide_eq_true (by omega)
theorem mul_ok {i j : Int} {k l : Nat} (h : i.natAbs < 2 ^ k) (g : j.natAbs < 2 ^ l) (hk : 0 < k) (hl : 0 < l) (hb : k + l ≤ 1000000) : mulOk i j = true := by
  have h1 := log2_lt h hk
  have h2 := log2_lt g hl
  unfold mulOk
  rw [decide_eq_true (show i.natAbs.log2 + j.natAbs.log2 < 1000000 by omega), Bool.or_true]
theorem mul_okl {i j : Int} (h : i.natAbs < 18446744073709551616) : mulOk i j = true := by
  unfold mulOk sm64
  rw [decide_eq_true h]; rfl
theorem mul_okr {i j : Int} (h : j.natAbs < 18446744073709551616) : mulOk i j = true := by
  unfold mulOk sm64
  rw [decide_eq_true h, Bool.or_true]; rfl
theorem forL_inv {f : D → MEnv → Store → Fl} {I : Nat → MEnv → Store → Prop} : ∀ (ds : List D) (j : Nat) (ρ : MEnv) (S : Store), I j ρ S →
    (∀ i d ρ S, ds[i]? = some d → I (j + i) ρ S → ∃ ρ' S', f d ρ S = .nx ρ' S' ∧ I (j + i + 1) ρ' S') → ∃ ρ' S', forL f ds ρ S = .nx ρ' S' ∧ I (j + ds.length) ρ' S'
  | [], j, ρ, S, h, _ => ⟨ρ, S, rfl, h⟩
  | d :: ds, j, ρ, S, h, st => by
    obtain ⟨ρ1, S1, e1, h1⟩ := st 0 d ρ S rfl h
    obtain ⟨ρ2, S2, e2, h2⟩ := forL_inv (f := f) (I := I) ds (j + 1) ρ1 S1 h1 fun i d' ρ' S' hd hi => by
      have := st (i + 1) d' ρ' S' (by simpa using hd) (by rw [show j + (i + 1) = j + 1 + i by omega]; exact hi)
      rw [show j + (i + 1) = j + 1 + i by omega] at this
      exact this
    refine ⟨ρ2, S2, ?_, by rw [List.length_cons, show j + (ds.length + 1) = j + 1 + ds.length by omega]; exact h2⟩
    unfold forL
    rw [e1]
    exact e2
/-- a def's answer, from its body's -/
theorem fn_ret {a k : Nat} {b : CSs} {ds : List D} {S S' : Store} {d : D} (hl : ds.length = a) (h : exs b (ds.map some ++ List.replicate (k - a) none) S = .ret d S') : fnOf a k b ds S = expo S.length d S' := by
  unfold fnOf
  rw [if_pos hl, h]
theorem expo_flat {d : D} {S' : Store} {n : Nat} (h : d.lt n = true) : expo n d S' = .ok d (S'.take n) := by
  unfold expo
  rw [if_pos h]
theorem fn_same {a k : Nat} {b : CSs} {ds : List D} {S S' : Store} {d : D} (hl : ds.length = a) (h : exs b (ds.map some ++ List.replicate (k - a) none) S = .ret d S') (hd : d.lt S.length = true) (hs : S'.length = S.length) : fnOf a k b ds S = .ok d S' := by
  have e := fn_ret hl h
  have e2 := expo_flat (S' := S') hd
  rw [e2, ← hs, List.take_length] at e
  exact e
theorem rangeD_get {lo hi : Int} {j : Nat} {d : D} (h : (rangeD lo hi)[j]? = some d) : d = .int (lo + (j : Nat)) ∧ j < (hi - lo).toNat := by
  unfold rangeD at h
  rw [List.getElem?_map] at h
  cases q : (List.range (hi - lo).toNat)[j]? with
  | none => rw [q] at h; cases h
  | some k =>
    rw [q] at h
    obtain ⟨q1, q2⟩ := List.getElem?_eq_some_iff.mp q
    rw [List.getElem_range] at q2
    subst q2
    simp only [Option.map_some, Option.some.injEq] at h
    exact ⟨h.symm, by simpa using q1⟩
theorem small_ok {n : Nat} (h : n ≤ 1000000) : small62 (n : Int) = true := by
  have h1 : (-(2 ^ 60) : Int) ≤ (n : Int) := Int.le_trans (by decide) (Int.natCast_nonneg n)
  have h2 : (n : Int) < 2 ^ 60 := Int.lt_of_le_of_lt (Int.ofNat_le.mpr h) (by decide)
  unfold small62
  rw [decide_eq_true_eq]
  exact ⟨h1, h2⟩
theorem mul_lt {i j : Int} {k l : Nat} (h : i.natAbs < 2 ^ k) (g : j.natAbs < 2 ^ l) : (i * j).natAbs < 2 ^ (k + l) := by
  rw [Int.natAbs_mul, Nat.pow_add]
  exact Nat.mul_lt_mul'' h g
theorem add_lt {i j : Int} {k : Nat} (h : i.natAbs < 2 ^ k) (g : j.natAbs < 2 ^ k) : (i + j).natAbs < 2 ^ (k + 1) := by
  have := Int.natAbs_add_le i j
  rw [Nat.pow_succ]; omega
theorem sub_lt {i j : Int} {k : Nat} (h : i.natAbs < 2 ^ k) (g : j.natAbs < 2 ^ k) : (i - j).natAbs < 2 ^ (k + 1) := by
  have := Int.natAbs_sub_le i j
  rw [Nat.pow_succ]; omega
theorem nat_abs_lt {i : Int} {n : Nat} (h1 : -(n : Int) < i) (h2 : i < n) : i.natAbs < n := by omega
theorem pw {n k l : Nat} (h : n < 2 ^ k) (hl : k ≤ l) : n < 2 ^ l := Nat.lt_of_lt_of_le h (Nat.pow_le_pow_right (by decide) hl)
theorem small_i {i : Int} (h0 : 0 ≤ i) (h1 : i ≤ 1000000) : small62 i = true := by
  have := small_ok (n := i.toNat) (by omega)
  rw [Int.toNat_of_nonneg h0] at this
  exact this
end MI.K
set_option exponentiation.threshold 5000
namespace MI.K
open PySem PySem.Spec L2
/-! ### draws -/
def bxC (ds : List Int) (k : Nat) : Cell := .lst [.lst (ds.map .int), .int (k : Int)]
def drw (ds : List Int) (k : Nat) (m : Int) : Int := if (k : Int) < ds.length then ds.getD k 0 % m else 0
theorem drw_lt {ds : List Int} {k : Nat} {m : Int} (h : 0 < m) : 0 ≤ drw ds k m ∧ drw ds k m < m := by
  unfold drw
  split
  · exact ⟨Int.emod_nonneg _ (by omega), Int.emod_lt_of_pos _ h⟩
  · exact ⟨Int.le_refl _, h⟩
theorem take_self {α : Type} {l l' : List α} (h : l'.length = l.length) : l'.take l.length = l' := by rw [← h, List.take_length]
theorem r_Ldraw {ds : List Int} {k : Nat} {m : Int} {T : Store} (hm : 0 < m) : f_Ldraw [.ptr 0, .int m] (bxC ds k :: T) = .ok (.int (drw ds k m)) (bxC ds (k + 1) :: T) := by
  refine fn_same (k := 3) rfl ?_ rfl rfl
  have e1 : ∀ k' j, ixD (.ptr 0) (.int j) (bxC ds k' :: T) = atI [.lst (ds.map .int), .int (k' : Int)] j := fun k' j => ix_ptr rfl
  have e2 : (if isDict (.ptr 0) (bxC ds k :: T) then dPut (.ptr 0) (.int 1) (.int ((k : Int) + 1)) (bxC ds k :: T) else putL (.ptr 0) (.int 1) (.int ((k : Int) + 1)) (bxC ds k :: T)) = some (bxC ds (k + 1) :: T) :=
    put_l (m := 1) (ds := [.lst (ds.map .int), .int (k : Int)]) rfl rfl rfl (show 1 < 2 by decide)
  show exs c_Ldraw [some (.ptr 0), some (.int m), none] (bxC ds k :: T) = _
  unfold c_Ldraw
  by_cases h : (k : Int) < (ds.length : Int)
  · have hk2 : k < ds.length := by omega
    have e3 : atI (ds.map D.int) (k : Int) = some (.int (ds.getD k 0)) :=
      atI_nat (by rw [List.getElem?_map, List.getElem?_eq_getElem hk2]; simp [hk2])
    simp only [bind_ok, fl_ok, of_some, seq_nx, seq_ret, pick_t, pick_f, getV_ok, putE_ok, putS_ok, ev_var, ev_non, ev_bl, ev_int, ev_str, ev_glob, ev_bin, ev_cmp, negD_int, ev_neg, notD_bl, ev_not, ev_band, ev_bor, pickE_t, pickE_f, and_1, and_c, or_1, or_c, ev_chain, ev_isN, ev_notN, ev_ite, ev_call, ev_bi, ev_tup, ev_new, new_f, ev_dnewK, ev_dnewT, ev_ix, ev_sl, ev_frz, evs_nil, evs_cons, evN_n, intN_int, evN_s, evO_n, evO_s, evL_disp, ev_join, joinM_s, evL_sorted, evL_sortk, evL_list, ev_dcomp, ex_rem, cmp_eqd, cmp_ned, iterL_t, iterL_l, evL_lrng, evL_stp, evL_rev, revM_l, evL_cat, evL_srtd, ev_cnt, evL_keys, seq_lst, seq_tup, ex_putp, evL_cm, evI_seq, evI_rng1, evI_rng2, evI_enum, exs_nil, exs_cons, exs_frz, ex_asg, setT_n, ex_par, ex_put, ex_aug, augD_ok, ex_drop, ex_app, ex_ifs, ex_for, ex_while, ex_ret, ex_retN, ex_pass, unlock_nx, unlock_ret, lock_seq, lock_cell, lockO_ok, evI_cell, iterO_ok, unlN_ok, unlock_nxs, lock_rng1, evI_rng3, lock_rng3, lock_rng2, lock_enum, lock_text, cmp_lt, cmp_le, cmp_gt, cmp_ge, cmp_eqi, cmp_nei, cmp_eqb, cmp_neb, b_add, b_sub, bi_abs, bi_int, len_lst, len_tup, len_scr, ix_lst, ix_tup, ix_scr, at_0, at_1, at_2, at_3, isN_non, isN_int, isN_tup, isN_lst, isN_str, isN_bl, List.getElem?_cons_succ, List.getElem?_cons_zero, Option.map_some, List.set_cons_succ, List.set_cons_zero, e1, e2, e3, h, decide_true, List.length_map, b_mod hm, drw, if_true]
  · simp only [bind_ok, fl_ok, of_some, seq_nx, seq_ret, pick_t, pick_f, getV_ok, putE_ok, putS_ok, ev_var, ev_non, ev_bl, ev_int, ev_str, ev_glob, ev_bin, ev_cmp, negD_int, ev_neg, notD_bl, ev_not, ev_band, ev_bor, pickE_t, pickE_f, and_1, and_c, or_1, or_c, ev_chain, ev_isN, ev_notN, ev_ite, ev_call, ev_bi, ev_tup, ev_new, new_f, ev_dnewK, ev_dnewT, ev_ix, ev_sl, ev_frz, evs_nil, evs_cons, evN_n, intN_int, evN_s, evO_n, evO_s, evL_disp, ev_join, joinM_s, evL_sorted, evL_sortk, evL_list, ev_dcomp, ex_rem, cmp_eqd, cmp_ned, iterL_t, iterL_l, evL_lrng, evL_stp, evL_rev, revM_l, evL_cat, evL_srtd, ev_cnt, evL_keys, seq_lst, seq_tup, ex_putp, evL_cm, evI_seq, evI_rng1, evI_rng2, evI_enum, exs_nil, exs_cons, exs_frz, ex_asg, setT_n, ex_par, ex_put, ex_aug, augD_ok, ex_drop, ex_app, ex_ifs, ex_for, ex_while, ex_ret, ex_retN, ex_pass, unlock_nx, unlock_ret, lock_seq, lock_cell, lockO_ok, evI_cell, iterO_ok, unlN_ok, unlock_nxs, lock_rng1, evI_rng3, lock_rng3, lock_rng2, lock_enum, lock_text, cmp_lt, cmp_le, cmp_gt, cmp_ge, cmp_eqi, cmp_nei, cmp_eqb, cmp_neb, b_add, b_sub, bi_abs, bi_int, len_lst, len_tup, len_scr, ix_lst, ix_tup, ix_scr, at_0, at_1, at_2, at_3, isN_non, isN_int, isN_tup, isN_lst, isN_str, isN_bl, List.getElem?_cons_succ, List.getElem?_cons_zero, Option.map_some, List.set_cons_succ, List.set_cons_zero, e1, e2, h, decide_false, List.length_map, drw, if_false]
theorem cell_0 {l : List D} {T : Store} : isCellL (.ptr 0) (.lst l :: T) = true := (rfl)
theorem cell_1 {c0 : Cell} {l : List D} {T : Store} : isCellL (.ptr 1) (c0 :: .lst l :: T) = true := (rfl)
theorem cell_2 {c0 c1 : Cell} {l : List D} {T : Store} : isCellL (.ptr 2) (c0 :: c1 :: .lst l :: T) = true := (rfl)
theorem cell_3 {c0 c1 c2 : Cell} {l : List D} {T : Store} : isCellL (.ptr 3) (c0 :: c1 :: c2 :: .lst l :: T) = true := (rfl)
theorem cell_4 {c0 c1 c2 c3 : Cell} {l : List D} {T : Store} : isCellL (.ptr 4) (c0 :: c1 :: c2 :: c3 :: .lst l :: T) = true := (rfl)
theorem cell_5 {c0 c1 c2 c3 c4 : Cell} {l : List D} {T : Store} : isCellL (.ptr 5) (c0 :: c1 :: c2 :: c3 :: c4 :: .lst l :: T) = true := (rfl)
theorem app_1 {d : D} {c0 : Cell} {l : List D} {T : Store} (h : d.lt 1 = true) (hl : l.length < 1000000) : appL (.ptr 1) d (c0 :: .lst l :: T) = some (c0 :: .lst (l ++ [d]) :: T) := app_l (n := 1) rfl h hl
theorem app_2 {d : D} {c0 c1 : Cell} {l : List D} {T : Store} (h : d.lt 2 = true) (hl : l.length < 1000000) : appL (.ptr 2) d (c0 :: c1 :: .lst l :: T) = some (c0 :: c1 :: .lst (l ++ [d]) :: T) := app_l (n := 2) rfl h hl
theorem app_3 {d : D} {c0 c1 c2 : Cell} {l : List D} {T : Store} (h : d.lt 3 = true) (hl : l.length < 1000000) : appL (.ptr 3) d (c0 :: c1 :: c2 :: .lst l :: T) = some (c0 :: c1 :: c2 :: .lst (l ++ [d]) :: T) := app_l (n := 3) rfl h hl
theorem app_4 {d : D} {c0 c1 c2 c3 : Cell} {l : List D} {T : Store} (h : d.lt 4 = true) (hl : l.length < 1000000) : appL (.ptr 4) d (c0 :: c1 :: c2 :: c3 :: .lst l :: T) = some (c0 :: c1 :: c2 :: c3 :: .lst (l ++ [d]) :: T) := app_l (n := 4) rfl h hl
theorem app_5 {d : D} {c0 c1 c2 c3 c4 : Cell} {l : List D} {T : Store} (h : d.lt 5 = true) (hl : l.length < 1000000) : appL (.ptr 5) d (c0 :: c1 :: c2 :: c3 :: c4 :: .lst l :: T) = some (c0 :: c1 :: c2 :: c3 :: c4 :: .lst (l ++ [d]) :: T) := app_l (n := 5) rfl h hl
/-- a draw, some cells behind the box -/
theorem r_draw_s {ds : List Int} {k : Nat} {m : Int} {T U : Store} (hm : 0 < m) : f_Ldraw [.ptr 0, .int m] ((bxC ds k :: T) ++ U) = .ok (.int (drw ds k m)) ((bxC ds (k + 1) :: T) ++ U) := r_Ldraw (T := T ++ U) hm
end MI.K
set_option exponentiation.threshold 5000
namespace MI.K
open PySem PySem.Spec L2
theorem r_Lcell {ns : List Int} {i : Int} {S : Store} (hi : 0 ≤ i) : ∃ c, f_Lcell [.scr (ns.map .int), .int i] S = .ok (.int c) S := by
  by_cases h : i < (ns.length : Int)
  · have hk2 : i.toNat < ns.length := by omega
    have e3 : atI (ns.map D.int) i = some (.int ns[i.toNat]) := by
      have := atI_nat (xs := ns.map D.int) (j := i.toNat) (v := .int ns[i.toNat]) (by rw [List.getElem?_map, List.getElem?_eq_getElem hk2]; rfl)
      rw [Int.toNat_of_nonneg hi] at this
      exact this
    refine ⟨ns[i.toNat], fn_same (k := 2) rfl ?_ rfl rfl⟩
    show exs c_Lcell [some (.scr (ns.map .int)), some (.int i)] S = _
    unfold c_Lcell
    simp only [bind_ok, fl_ok, of_some, seq_nx, seq_ret, pick_t, pick_f, getV_ok, putE_ok, putS_ok, ev_var, ev_non, ev_bl, ev_int, ev_str, ev_glob, ev_bin, ev_cmp, negD_int, ev_neg, notD_bl, ev_not, ev_band, ev_bor, pickE_t, pickE_f, and_1, and_c, or_1, or_c, ev_chain, ev_isN, ev_notN, ev_ite, ev_call, ev_bi, ev_tup, ev_new, new_f, ev_dnewK, ev_dnewT, ev_ix, ev_sl, ev_frz, evs_nil, evs_cons, evN_n, intN_int, evN_s, evO_n, evO_s, evL_disp, ev_join, joinM_s, evL_sorted, evL_sortk, evL_list, ev_dcomp, ex_rem, cmp_eqd, cmp_ned, iterL_t, iterL_l, evL_lrng, evL_stp, evL_rev, revM_l, evL_cat, evL_srtd, ev_cnt, evL_keys, seq_lst, seq_tup, ex_putp, evL_cm, evI_seq, evI_rng1, evI_rng2, evI_enum, exs_nil, exs_cons, exs_frz, ex_asg, setT_n, ex_par, ex_put, ex_aug, augD_ok, ex_drop, ex_app, ex_ifs, ex_for, ex_while, ex_ret, ex_retN, ex_pass, unlock_nx, unlock_ret, lock_seq, lock_cell, lockO_ok, evI_cell, iterO_ok, unlN_ok, unlock_nxs, lock_rng1, evI_rng3, lock_rng3, lock_rng2, lock_enum, lock_text, cmp_lt, cmp_le, cmp_gt, cmp_ge, cmp_eqi, cmp_nei, cmp_eqb, cmp_neb, b_add, b_sub, bi_abs, bi_int, len_lst, len_tup, len_scr, ix_lst, ix_tup, ix_scr, at_0, at_1, at_2, at_3, isN_non, isN_int, isN_tup, isN_lst, isN_str, isN_bl, List.getElem?_cons_succ, List.getElem?_cons_zero, Option.map_some, List.set_cons_succ, List.set_cons_zero, e3, h, decide_true, List.length_map]
  · refine ⟨0, fn_same (k := 2) rfl ?_ rfl rfl⟩
    show exs c_Lcell [some (.scr (ns.map .int)), some (.int i)] S = _
    unfold c_Lcell
    simp only [bind_ok, fl_ok, of_some, seq_nx, seq_ret, pick_t, pick_f, getV_ok, putE_ok, putS_ok, ev_var, ev_non, ev_bl, ev_int, ev_str, ev_glob, ev_bin, ev_cmp, negD_int, ev_neg, notD_bl, ev_not, ev_band, ev_bor, pickE_t, pickE_f, and_1, and_c, or_1, or_c, ev_chain, ev_isN, ev_notN, ev_ite, ev_call, ev_bi, ev_tup, ev_new, new_f, ev_dnewK, ev_dnewT, ev_ix, ev_sl, ev_frz, evs_nil, evs_cons, evN_n, intN_int, evN_s, evO_n, evO_s, evL_disp, ev_join, joinM_s, evL_sorted, evL_sortk, evL_list, ev_dcomp, ex_rem, cmp_eqd, cmp_ned, iterL_t, iterL_l, evL_lrng, evL_stp, evL_rev, revM_l, evL_cat, evL_srtd, ev_cnt, evL_keys, seq_lst, seq_tup, ex_putp, evL_cm, evI_seq, evI_rng1, evI_rng2, evI_enum, exs_nil, exs_cons, exs_frz, ex_asg, setT_n, ex_par, ex_put, ex_aug, augD_ok, ex_drop, ex_app, ex_ifs, ex_for, ex_while, ex_ret, ex_retN, ex_pass, unlock_nx, unlock_ret, lock_seq, lock_cell, lockO_ok, evI_cell, iterO_ok, unlN_ok, unlock_nxs, lock_rng1, evI_rng3, lock_rng3, lock_rng2, lock_enum, lock_text, cmp_lt, cmp_le, cmp_gt, cmp_ge, cmp_eqi, cmp_nei, cmp_eqb, cmp_neb, b_add, b_sub, bi_abs, bi_int, len_lst, len_tup, len_scr, ix_lst, ix_tup, ix_scr, at_0, at_1, at_2, at_3, isN_non, isN_int, isN_tup, isN_lst, isN_str, isN_bl, List.getElem?_cons_succ, List.getElem?_cons_zero, Option.map_some, List.set_cons_succ, List.set_cons_zero, h, decide_false, List.length_map]
end MI.K
set_option exponentiation.threshold 5000
namespace MI.K
open PySem PySem.Spec L2
/-! ### the digits -/
abbrev dS (acc : List Int) : Store := [.lst (acc.map .int)]
theorem app_ok {acc : List Int} {i : Int} (h : acc.length < 1000000) : appL (.ptr 0) (.int i) (dS acc) = some (dS (acc ++ [i])) := by
  rw [app_l rfl rfl (by simpa using h)]
  simp [dS]
theorem dig_a {s lo hi x7 : Option D} : ∀ (items : List D) (k cell : Int) (x6 : Option D) (acc : List Int), 0 ≤ cell → acc.length + items.length < 1000000 →
    ∃ x6' cell' acc', forL (turnF (.name 6) b_Ldigits_1) items [s, lo, hi, some (.ptr 0), some (.int k), some (.int cell), x6, x7] (dS acc) = .nx [s, lo, hi, some (.ptr 0), some (.int k), some (.int cell'), x6', x7] (dS acc') ∧ acc'.length ≤ acc.length + items.length
  | [], k, cell, x6, acc, _, hl => ⟨x6, cell, acc, rfl, Nat.le_refl _⟩
  | d :: items, k, cell, x6, acc, hc, hl => by
    rw [List.length_cons] at hl
    by_cases h : 0 < cell
    · obtain ⟨a, b, c, q1, q2⟩ := dig_a (s := s) (lo := lo) (hi := hi) (x7 := x7) items k (cell / 1000) (some d) (acc ++ [cell % 1000]) (Int.ediv_nonneg hc (by decide)) (by rw [List.length_append]; simp; omega)
      refine ⟨a, b, c, ?_, by rw [List.length_append] at q2; simp at q2 ⊢; omega⟩
      have e : turnF (.name 6) b_Ldigits_1 d [s, lo, hi, some (.ptr 0), some (.int k), some (.int cell), x6, x7] (dS acc) = .nx [s, lo, hi, some (.ptr 0), some (.int k), some (.int (cell / 1000)), some d, x7] (dS (acc ++ [cell % 1000])) := by
        show exs b_Ldigits_1 [s, lo, hi, some (.ptr 0), some (.int k), some (.int cell), some d, x7] (dS acc) = _
        unfold b_Ldigits_1
        simp only [bind_ok, fl_ok, of_some, seq_nx, seq_ret, pick_t, pick_f, getV_ok, putE_ok, putS_ok, ev_var, ev_non, ev_bl, ev_int, ev_str, ev_glob, ev_bin, ev_cmp, negD_int, ev_neg, notD_bl, ev_not, ev_band, ev_bor, pickE_t, pickE_f, and_1, and_c, or_1, or_c, ev_chain, ev_isN, ev_notN, ev_ite, ev_call, ev_bi, ev_tup, ev_new, new_f, ev_dnewK, ev_dnewT, ev_ix, ev_sl, ev_frz, evs_nil, evs_cons, evN_n, intN_int, evN_s, evO_n, evO_s, evL_disp, ev_join, joinM_s, evL_sorted, evL_sortk, evL_list, ev_dcomp, ex_rem, cmp_eqd, cmp_ned, iterL_t, iterL_l, evL_lrng, evL_stp, evL_rev, revM_l, evL_cat, evL_srtd, ev_cnt, evL_keys, seq_lst, seq_tup, ex_putp, evL_cm, evI_seq, evI_rng1, evI_rng2, evI_enum, exs_nil, exs_cons, exs_frz, ex_asg, setT_n, ex_par, ex_put, ex_aug, augD_ok, ex_drop, ex_app, ex_ifs, ex_for, ex_while, ex_ret, ex_retN, ex_pass, unlock_nx, unlock_ret, lock_seq, lock_cell, lockO_ok, evI_cell, iterO_ok, unlN_ok, unlock_nxs, lock_rng1, evI_rng3, lock_rng3, lock_rng2, lock_enum, lock_text, cmp_lt, cmp_le, cmp_gt, cmp_ge, cmp_eqi, cmp_nei, cmp_eqb, cmp_neb, b_add, b_sub, bi_abs, bi_int, len_lst, len_tup, len_scr, ix_lst, ix_tup, ix_scr, at_0, at_1, at_2, at_3, isN_non, isN_int, isN_tup, isN_lst, isN_str, isN_bl, List.getElem?_cons_succ, List.getElem?_cons_zero, Option.map_some, List.set_cons_succ, List.set_cons_zero, h, decide_true, show isCellL (.ptr 0) (dS acc) = true from rfl, if_true, b_mod (show (0 : Int) < 1000 by decide), app_ok (show acc.length < 1000000 by omega), b_div (show (0 : Int) < 1000 by decide) (show divOk 1000 = true by decide +kernel)]
      unfold forL
      rw [e]
      exact q1
    · obtain ⟨a, b, c, q1, q2⟩ := dig_a (s := s) (lo := lo) (hi := hi) (x7 := x7) items k cell (some d) acc hc (by omega)
      refine ⟨a, b, c, ?_, by simp; omega⟩
      have e : turnF (.name 6) b_Ldigits_1 d [s, lo, hi, some (.ptr 0), some (.int k), some (.int cell), x6, x7] (dS acc) = .nx [s, lo, hi, some (.ptr 0), some (.int k), some (.int cell), some d, x7] (dS acc) := by
        show exs b_Ldigits_1 [s, lo, hi, some (.ptr 0), some (.int k), some (.int cell), some d, x7] (dS acc) = _
        unfold b_Ldigits_1
        simp only [bind_ok, fl_ok, of_some, seq_nx, seq_ret, pick_t, pick_f, getV_ok, putE_ok, putS_ok, ev_var, ev_non, ev_bl, ev_int, ev_str, ev_glob, ev_bin, ev_cmp, negD_int, ev_neg, notD_bl, ev_not, ev_band, ev_bor, pickE_t, pickE_f, and_1, and_c, or_1, or_c, ev_chain, ev_isN, ev_notN, ev_ite, ev_call, ev_bi, ev_tup, ev_new, new_f, ev_dnewK, ev_dnewT, ev_ix, ev_sl, ev_frz, evs_nil, evs_cons, evN_n, intN_int, evN_s, evO_n, evO_s, evL_disp, ev_join, joinM_s, evL_sorted, evL_sortk, evL_list, ev_dcomp, ex_rem, cmp_eqd, cmp_ned, iterL_t, iterL_l, evL_lrng, evL_stp, evL_rev, revM_l, evL_cat, evL_srtd, ev_cnt, evL_keys, seq_lst, seq_tup, ex_putp, evL_cm, evI_seq, evI_rng1, evI_rng2, evI_enum, exs_nil, exs_cons, exs_frz, ex_asg, setT_n, ex_par, ex_put, ex_aug, augD_ok, ex_drop, ex_app, ex_ifs, ex_for, ex_while, ex_ret, ex_retN, ex_pass, unlock_nx, unlock_ret, lock_seq, lock_cell, lockO_ok, evI_cell, iterO_ok, unlN_ok, unlock_nxs, lock_rng1, evI_rng3, lock_rng3, lock_rng2, lock_enum, lock_text, cmp_lt, cmp_le, cmp_gt, cmp_ge, cmp_eqi, cmp_nei, cmp_eqb, cmp_neb, b_add, b_sub, bi_abs, bi_int, len_lst, len_tup, len_scr, ix_lst, ix_tup, ix_scr, at_0, at_1, at_2, at_3, isN_non, isN_int, isN_tup, isN_lst, isN_str, isN_bl, List.getElem?_cons_succ, List.getElem?_cons_zero, Option.map_some, List.set_cons_succ, List.set_cons_zero, h, decide_false]
      unfold forL
      rw [e]
      exact q1
theorem dig_b {s lo hi x5 : Option D} : ∀ (items : List Int) (k seed : Int) (x6 : Option D) (acc : List Int), acc.length + items.length < 1000000 →
    ∃ x6' seed' acc', forL (turnF (.name 6) b_Ldigits_2) (items.map .int) [s, lo, hi, some (.ptr 0), some (.int k), x5, x6, some (.int seed)] (dS acc) = .nx [s, lo, hi, some (.ptr 0), some (.int k), x5, x6', some (.int seed')] (dS acc') ∧ acc'.length ≤ acc.length + items.length
  | [], k, seed, x6, acc, hl => ⟨x6, seed, acc, rfl, Nat.le_refl _⟩
  | d :: items, k, seed, x6, acc, hl => by
    rw [List.length_cons] at hl
    obtain ⟨a, b, c, q1, q2⟩ := dig_b (s := s) (lo := lo) (hi := hi) (x5 := x5) items k ((seed * 16807 + 7 * d + 1) % 2147483647) (some (.int d)) (acc ++ [((seed * 16807 + 7 * d + 1) % 2147483647) / 997 % 1000]) (by rw [List.length_append]; simp; omega)
    refine ⟨a, b, c, ?_, by rw [List.length_append] at q2; simp at q2 ⊢; omega⟩
    have e : turnF (.name 6) b_Ldigits_2 (.int d) [s, lo, hi, some (.ptr 0), some (.int k), x5, x6, some (.int seed)] (dS acc) = .nx [s, lo, hi, some (.ptr 0), some (.int k), x5, some (.int d), some (.int ((seed * 16807 + 7 * d + 1) % 2147483647))] (dS (acc ++ [((seed * 16807 + 7 * d + 1) % 2147483647) / 997 % 1000])) := by
      show exs b_Ldigits_2 [s, lo, hi, some (.ptr 0), some (.int k), x5, some (.int d), some (.int seed)] (dS acc) = _
      unfold b_Ldigits_2
      simp only [bind_ok, fl_ok, of_some, seq_nx, seq_ret, pick_t, pick_f, getV_ok, putE_ok, putS_ok, ev_var, ev_non, ev_bl, ev_int, ev_str, ev_glob, ev_bin, ev_cmp, negD_int, ev_neg, notD_bl, ev_not, ev_band, ev_bor, pickE_t, pickE_f, and_1, and_c, or_1, or_c, ev_chain, ev_isN, ev_notN, ev_ite, ev_call, ev_bi, ev_tup, ev_new, new_f, ev_dnewK, ev_dnewT, ev_ix, ev_sl, ev_frz, evs_nil, evs_cons, evN_n, intN_int, evN_s, evO_n, evO_s, evL_disp, ev_join, joinM_s, evL_sorted, evL_sortk, evL_list, ev_dcomp, ex_rem, cmp_eqd, cmp_ned, iterL_t, iterL_l, evL_lrng, evL_stp, evL_rev, revM_l, evL_cat, evL_srtd, ev_cnt, evL_keys, seq_lst, seq_tup, ex_putp, evL_cm, evI_seq, evI_rng1, evI_rng2, evI_enum, exs_nil, exs_cons, exs_frz, ex_asg, setT_n, ex_par, ex_put, ex_aug, augD_ok, ex_drop, ex_app, ex_ifs, ex_for, ex_while, ex_ret, ex_retN, ex_pass, unlock_nx, unlock_ret, lock_seq, lock_cell, lockO_ok, evI_cell, iterO_ok, unlN_ok, unlock_nxs, lock_rng1, evI_rng3, lock_rng3, lock_rng2, lock_enum, lock_text, cmp_lt, cmp_le, cmp_gt, cmp_ge, cmp_eqi, cmp_nei, cmp_eqb, cmp_neb, b_add, b_sub, bi_abs, bi_int, len_lst, len_tup, len_scr, ix_lst, ix_tup, ix_scr, at_0, at_1, at_2, at_3, isN_non, isN_int, isN_tup, isN_lst, isN_str, isN_bl, List.getElem?_cons_succ, List.getElem?_cons_zero, Option.map_some, List.set_cons_succ, List.set_cons_zero, show isCellL (.ptr 0) (dS acc) = true from rfl, if_true, b_mod (show (0 : Int) < 1000 by decide), b_mod (show (0 : Int) < 2147483647 by decide), app_ok (show acc.length < 1000000 by omega), b_div (show (0 : Int) < 997 by decide) (show divOk 997 = true by decide +kernel), b_mul (mul_okr (show (16807 : Int).natAbs < 18446744073709551616 by decide)), b_mul (mul_okl (show (7 : Int).natAbs < 18446744073709551616 by decide))]
    show forL _ (.int d :: items.map .int) _ _ = _
    unfold forL
    rw [e]
    exact q1
/-- one turn over the script -/
theorem dig_turn {ns : List Int} {lo hi x5 x6 x7 x4 : Option D} {k : Int} {acc : List Int} (hk : 0 ≤ k) (hk2 : k < 1000000) (hl : acc.length + 60 < 1000000) : ∃ x5' x6' x7' acc', turnF (.name 4) b_Ldigits_3 (.int k) [some (.scr (ns.map .int)), lo, hi, some (.ptr 0), x4, x5, x6, x7] (dS acc) =
    .nx [some (.scr (ns.map .int)), lo, hi, some (.ptr 0), some (.int k), x5', x6', x7'] (dS acc') ∧ acc'.length ≤ acc.length + 60 := by
  obtain ⟨c, hc⟩ := r_Lcell (ns := ns) (S := dS acc) hk
  have e10 : binD .pow (.int 10) (.int 18) (dS acc) = some (.int 1000000000000000000) := by
    show (if (0 : Int) ≤ 18 ∧ (18 : Int) ≤ 1000 ∧ (10 : Int).natAbs < 18446744073709551616 then some (D.int ((10 : Int) ^ (18 : Int).toNat)) else none) = _
    rw [if_pos (by decide)]
    rfl
  have m60 : small62 60 = true := by decide +kernel
  have m12 : small62 12 = true := by decide +kernel
  have er : rangeD 0 12 = ((List.range 12).map fun (i : Nat) => (0 + (i : Int))).map .int := by rw [List.map_map]; rfl
  have u1 : (2 : Int).natAbs < 18446744073709551616 := by decide
  have u2 : (48271 : Int).natAbs < 18446744073709551616 := by decide
  have u3 : (69621 : Int).natAbs < 18446744073709551616 := by decide
  have u4 : (0 : Int) < 2147483647 := by decide
  show ∃ x5' x6' x7' acc', exs b_Ldigits_3 [some (.scr (ns.map .int)), lo, hi, some (.ptr 0), some (.int k), x5, x6, x7] (dS acc) = _ ∧ _
  unfold b_Ldigits_3
  have da := fun cell h0 => dig_a (s := some (.scr (ns.map .int))) (lo := lo) (hi := hi) (x7 := x7) (rangeD 0 60) k cell x6 acc h0 (by rw [rangeD_len]; show acc.length + 60 < _; omega)
  have db := fun cell => dig_b (s := some (.scr (ns.map .int))) (lo := lo) (hi := hi) (x5 := some (.int cell)) ((List.range 12).map fun (i : Nat) => (0 + (i : Int))) k ((cell * 48271 + k * 69621 + 11) % 2147483647) x6 acc (by simp; omega)
  rw [← er] at db
  by_cases hn : c < 0
  · by_cases h : (1000000000000000000 : Int) ≤ 1 - 2 * c
    · obtain ⟨a, b, c', q1, q2⟩ := da (1 - 2 * c) (by omega)
      rw [rangeD_len] at q2
      exact ⟨some (.int b), a, x7, c', by simp only [bind_ok, fl_ok, of_some, seq_nx, seq_ret, pick_t, pick_f, getV_ok, putE_ok, putS_ok, ev_var, ev_non, ev_bl, ev_int, ev_str, ev_glob, ev_bin, ev_cmp, negD_int, ev_neg, notD_bl, ev_not, ev_band, ev_bor, pickE_t, pickE_f, and_1, and_c, or_1, or_c, ev_chain, ev_isN, ev_notN, ev_ite, ev_call, ev_bi, ev_tup, ev_new, new_f, ev_dnewK, ev_dnewT, ev_ix, ev_sl, ev_frz, evs_nil, evs_cons, evN_n, intN_int, evN_s, evO_n, evO_s, evL_disp, ev_join, joinM_s, evL_sorted, evL_sortk, evL_list, ev_dcomp, ex_rem, cmp_eqd, cmp_ned, iterL_t, iterL_l, evL_lrng, evL_stp, evL_rev, revM_l, evL_cat, evL_srtd, ev_cnt, evL_keys, seq_lst, seq_tup, ex_putp, evL_cm, evI_seq, evI_rng1, evI_rng2, evI_enum, exs_nil, exs_cons, exs_frz, ex_asg, setT_n, ex_par, ex_put, ex_aug, augD_ok, ex_drop, ex_app, ex_ifs, ex_for, ex_while, ex_ret, ex_retN, ex_pass, unlock_nx, unlock_ret, lock_seq, lock_cell, lockO_ok, evI_cell, iterO_ok, unlN_ok, unlock_nxs, lock_rng1, evI_rng3, lock_rng3, lock_rng2, lock_enum, lock_text, cmp_lt, cmp_le, cmp_gt, cmp_ge, cmp_eqi, cmp_nei, cmp_eqb, cmp_neb, b_add, b_sub, bi_abs, bi_int, len_lst, len_tup, len_scr, ix_lst, ix_tup, ix_scr, at_0, at_1, at_2, at_3, isN_non, isN_int, isN_tup, isN_lst, isN_str, isN_bl, List.getElem?_cons_succ, List.getElem?_cons_zero, Option.map_some, List.set_cons_succ, List.set_cons_zero, hc, hn, e10, h, decide_true, rngD_ok m60, q1, b_mul (mul_okl u1)], q2⟩
    · obtain ⟨a, b, c', q1, q2⟩ := db (1 - 2 * c)
      simp only [List.length_map, List.length_range] at q2
      exact ⟨some (.int (1 - 2 * c)), a, some (.int b), c', by simp only [bind_ok, fl_ok, of_some, seq_nx, seq_ret, pick_t, pick_f, getV_ok, putE_ok, putS_ok, ev_var, ev_non, ev_bl, ev_int, ev_str, ev_glob, ev_bin, ev_cmp, negD_int, ev_neg, notD_bl, ev_not, ev_band, ev_bor, pickE_t, pickE_f, and_1, and_c, or_1, or_c, ev_chain, ev_isN, ev_notN, ev_ite, ev_call, ev_bi, ev_tup, ev_new, new_f, ev_dnewK, ev_dnewT, ev_ix, ev_sl, ev_frz, evs_nil, evs_cons, evN_n, intN_int, evN_s, evO_n, evO_s, evL_disp, ev_join, joinM_s, evL_sorted, evL_sortk, evL_list, ev_dcomp, ex_rem, cmp_eqd, cmp_ned, iterL_t, iterL_l, evL_lrng, evL_stp, evL_rev, revM_l, evL_cat, evL_srtd, ev_cnt, evL_keys, seq_lst, seq_tup, ex_putp, evL_cm, evI_seq, evI_rng1, evI_rng2, evI_enum, exs_nil, exs_cons, exs_frz, ex_asg, setT_n, ex_par, ex_put, ex_aug, augD_ok, ex_drop, ex_app, ex_ifs, ex_for, ex_while, ex_ret, ex_retN, ex_pass, unlock_nx, unlock_ret, lock_seq, lock_cell, lockO_ok, evI_cell, iterO_ok, unlN_ok, unlock_nxs, lock_rng1, evI_rng3, lock_rng3, lock_rng2, lock_enum, lock_text, cmp_lt, cmp_le, cmp_gt, cmp_ge, cmp_eqi, cmp_nei, cmp_eqb, cmp_neb, b_add, b_sub, bi_abs, bi_int, len_lst, len_tup, len_scr, ix_lst, ix_tup, ix_scr, at_0, at_1, at_2, at_3, isN_non, isN_int, isN_tup, isN_lst, isN_str, isN_bl, List.getElem?_cons_succ, List.getElem?_cons_zero, Option.map_some, List.set_cons_succ, List.set_cons_zero, hc, hn, e10, h, decide_true, decide_false, rngD_ok m12, b_mod u4, b_mul (mul_okr u2), b_mul (mul_okr u3), q1, b_mul (mul_okl u1)], by omega⟩
  · by_cases h : (1000000000000000000 : Int) ≤ c
    · obtain ⟨a, b, c', q1, q2⟩ := da c (by omega)
      rw [rangeD_len] at q2
      exact ⟨some (.int b), a, x7, c', by simp only [bind_ok, fl_ok, of_some, seq_nx, seq_ret, pick_t, pick_f, getV_ok, putE_ok, putS_ok, ev_var, ev_non, ev_bl, ev_int, ev_str, ev_glob, ev_bin, ev_cmp, negD_int, ev_neg, notD_bl, ev_not, ev_band, ev_bor, pickE_t, pickE_f, and_1, and_c, or_1, or_c, ev_chain, ev_isN, ev_notN, ev_ite, ev_call, ev_bi, ev_tup, ev_new, new_f, ev_dnewK, ev_dnewT, ev_ix, ev_sl, ev_frz, evs_nil, evs_cons, evN_n, intN_int, evN_s, evO_n, evO_s, evL_disp, ev_join, joinM_s, evL_sorted, evL_sortk, evL_list, ev_dcomp, ex_rem, cmp_eqd, cmp_ned, iterL_t, iterL_l, evL_lrng, evL_stp, evL_rev, revM_l, evL_cat, evL_srtd, ev_cnt, evL_keys, seq_lst, seq_tup, ex_putp, evL_cm, evI_seq, evI_rng1, evI_rng2, evI_enum, exs_nil, exs_cons, exs_frz, ex_asg, setT_n, ex_par, ex_put, ex_aug, augD_ok, ex_drop, ex_app, ex_ifs, ex_for, ex_while, ex_ret, ex_retN, ex_pass, unlock_nx, unlock_ret, lock_seq, lock_cell, lockO_ok, evI_cell, iterO_ok, unlN_ok, unlock_nxs, lock_rng1, evI_rng3, lock_rng3, lock_rng2, lock_enum, lock_text, cmp_lt, cmp_le, cmp_gt, cmp_ge, cmp_eqi, cmp_nei, cmp_eqb, cmp_neb, b_add, b_sub, bi_abs, bi_int, len_lst, len_tup, len_scr, ix_lst, ix_tup, ix_scr, at_0, at_1, at_2, at_3, isN_non, isN_int, isN_tup, isN_lst, isN_str, isN_bl, List.getElem?_cons_succ, List.getElem?_cons_zero, Option.map_some, List.set_cons_succ, List.set_cons_zero, hc, hn, e10, h, decide_true, decide_false, rngD_ok m60, q1], q2⟩
    · obtain ⟨a, b, c', q1, q2⟩ := db c
      simp only [List.length_map, List.length_range] at q2
      exact ⟨some (.int c), a, some (.int b), c', by simp only [bind_ok, fl_ok, of_some, seq_nx, seq_ret, pick_t, pick_f, getV_ok, putE_ok, putS_ok, ev_var, ev_non, ev_bl, ev_int, ev_str, ev_glob, ev_bin, ev_cmp, negD_int, ev_neg, notD_bl, ev_not, ev_band, ev_bor, pickE_t, pickE_f, and_1, and_c, or_1, or_c, ev_chain, ev_isN, ev_notN, ev_ite, ev_call, ev_bi, ev_tup, ev_new, new_f, ev_dnewK, ev_dnewT, ev_ix, ev_sl, ev_frz, evs_nil, evs_cons, evN_n, intN_int, evN_s, evO_n, evO_s, evL_disp, ev_join, joinM_s, evL_sorted, evL_sortk, evL_list, ev_dcomp, ex_rem, cmp_eqd, cmp_ned, iterL_t, iterL_l, evL_lrng, evL_stp, evL_rev, revM_l, evL_cat, evL_srtd, ev_cnt, evL_keys, seq_lst, seq_tup, ex_putp, evL_cm, evI_seq, evI_rng1, evI_rng2, evI_enum, exs_nil, exs_cons, exs_frz, ex_asg, setT_n, ex_par, ex_put, ex_aug, augD_ok, ex_drop, ex_app, ex_ifs, ex_for, ex_while, ex_ret, ex_retN, ex_pass, unlock_nx, unlock_ret, lock_seq, lock_cell, lockO_ok, evI_cell, iterO_ok, unlN_ok, unlock_nxs, lock_rng1, evI_rng3, lock_rng3, lock_rng2, lock_enum, lock_text, cmp_lt, cmp_le, cmp_gt, cmp_ge, cmp_eqi, cmp_nei, cmp_eqb, cmp_neb, b_add, b_sub, bi_abs, bi_int, len_lst, len_tup, len_scr, ix_lst, ix_tup, ix_scr, at_0, at_1, at_2, at_3, isN_non, isN_int, isN_tup, isN_lst, isN_str, isN_bl, List.getElem?_cons_succ, List.getElem?_cons_zero, Option.map_some, List.set_cons_succ, List.set_cons_zero, hc, hn, e10, h, decide_false, rngD_ok m12, b_mod u4, b_mul (mul_okr u2), b_mul (mul_okr u3), q1], by omega⟩
theorem r_Ldigits {ns : List Int} {lo hi : Int} (h0 : 0 ≤ lo) (hh : lo ≤ hi) (h1 : hi ≤ 1000) : ∃ ds : List Int, f_Ldigits [.scr (ns.map .int), .int lo, .int hi] [] = .ok (.lst (ds.map .int)) [] := by
  · obtain ⟨ρ', S', q1, q2⟩ := forL_inv (f := turnF (.name 4) b_Ldigits_3) (I := fun j ρ S => ∃ x4 x5 x6 x7 acc, ρ = [some (.scr (ns.map .int)), some (.int lo), some (.int hi), some (.ptr 0), x4, x5, x6, x7] ∧ S = dS acc ∧ acc.length ≤ 60 * j) (rangeD lo hi) 0
      [some (.scr (ns.map .int)), some (.int lo), some (.int hi), some (.ptr 0), none, none, none, none] (dS []) ⟨_, _, _, _, [], rfl, rfl, by simp⟩ (by
      rintro i d ρ S hd ⟨x4, x5, x6, x7, acc, rfl, rfl, hl⟩
      obtain ⟨rfl, hj⟩ := rangeD_get hd
      have hi' : i < 1000 := by omega
      obtain ⟨a, b, c, acc', e1, e2⟩ := dig_turn (ns := ns) (lo := some (.int lo)) (hi := some (.int hi)) (x4 := x4) (x5 := x5) (x6 := x6) (x7 := x7) (k := lo + (i : Nat)) (acc := acc) (by omega) (by omega) (by omega)
      exact ⟨_, _, e1, _, _, _, _, acc', rfl, rfl, by omega⟩)
    obtain ⟨x4, x5, x6, x7, acc, rfl, rfl, hl⟩ := q2
    refine ⟨acc, ?_⟩
    refine (fn_ret (S' := [.dead]) (d := .lst (acc.map .int)) rfl ?_).trans ?_
    · show exs c_Ldigits [some (.scr (ns.map .int)), some (.int lo), some (.int hi), none, none, none, none, none] [] = _
      have b1 : small62 lo = true := by have := small_ok (n := lo.toNat) (by omega); rw [Int.toNat_of_nonneg h0] at this; exact this
      have b2 : small62 hi = true := by have := small_ok (n := hi.toNat) (by omega); rw [Int.toNat_of_nonneg (by omega)] at this; exact this
      unfold c_Ldigits
      simp only [bind_ok, fl_ok, of_some, seq_nx, seq_ret, pick_t, pick_f, getV_ok, putE_ok, putS_ok, ev_var, ev_non, ev_bl, ev_int, ev_str, ev_glob, ev_bin, ev_cmp, negD_int, ev_neg, notD_bl, ev_not, ev_band, ev_bor, pickE_t, pickE_f, and_1, and_c, or_1, or_c, ev_chain, ev_isN, ev_notN, ev_ite, ev_call, ev_bi, ev_tup, ev_new, new_f, ev_dnewK, ev_dnewT, ev_ix, ev_sl, ev_frz, evs_nil, evs_cons, evN_n, intN_int, evN_s, evO_n, evO_s, evL_disp, ev_join, joinM_s, evL_sorted, evL_sortk, evL_list, ev_dcomp, ex_rem, cmp_eqd, cmp_ned, iterL_t, iterL_l, evL_lrng, evL_stp, evL_rev, revM_l, evL_cat, evL_srtd, ev_cnt, evL_keys, seq_lst, seq_tup, ex_putp, evL_cm, evI_seq, evI_rng1, evI_rng2, evI_enum, exs_nil, exs_cons, exs_frz, ex_asg, setT_n, ex_par, ex_put, ex_aug, augD_ok, ex_drop, ex_app, ex_ifs, ex_for, ex_while, ex_ret, ex_retN, ex_pass, unlock_nx, unlock_ret, lock_seq, lock_cell, lockO_ok, evI_cell, iterO_ok, unlN_ok, unlock_nxs, lock_rng1, evI_rng3, lock_rng3, lock_rng2, lock_enum, lock_text, cmp_lt, cmp_le, cmp_gt, cmp_ge, cmp_eqi, cmp_nei, cmp_eqb, cmp_neb, b_add, b_sub, bi_abs, bi_int, len_lst, len_tup, len_scr, ix_lst, ix_tup, ix_scr, at_0, at_1, at_2, at_3, isN_non, isN_int, isN_tup, isN_lst, isN_str, isN_bl, List.getElem?_cons_succ, List.getElem?_cons_zero, Option.map_some, List.set_cons_succ, List.set_cons_zero, new_t (show ltL [] ([] : Store).length = true from rfl), List.length_nil, List.nil_append, rngD2_ok b1 b2]
      have q1' : forL (turnF (.name 4) b_Ldigits_3) (rangeD lo hi) [some (.scr (ns.map .int)), some (.int lo), some (.int hi), some (.ptr 0), none, none, none, none] [Cell.lst []] = _ := q1
      rw [q1']
      simp only [bind_ok, fl_ok, of_some, seq_nx, seq_ret, pick_t, pick_f, getV_ok, putE_ok, putS_ok, ev_var, ev_non, ev_bl, ev_int, ev_str, ev_glob, ev_bin, ev_cmp, negD_int, ev_neg, notD_bl, ev_not, ev_band, ev_bor, pickE_t, pickE_f, and_1, and_c, or_1, or_c, ev_chain, ev_isN, ev_notN, ev_ite, ev_call, ev_bi, ev_tup, ev_new, new_f, ev_dnewK, ev_dnewT, ev_ix, ev_sl, ev_frz, evs_nil, evs_cons, evN_n, intN_int, evN_s, evO_n, evO_s, evL_disp, ev_join, joinM_s, evL_sorted, evL_sortk, evL_list, ev_dcomp, ex_rem, cmp_eqd, cmp_ned, iterL_t, iterL_l, evL_lrng, evL_stp, evL_rev, revM_l, evL_cat, evL_srtd, ev_cnt, evL_keys, seq_lst, seq_tup, ex_putp, evL_cm, evI_seq, evI_rng1, evI_rng2, evI_enum, exs_nil, exs_cons, exs_frz, ex_asg, setT_n, ex_par, ex_put, ex_aug, augD_ok, ex_drop, ex_app, ex_ifs, ex_for, ex_while, ex_ret, ex_retN, ex_pass, unlock_nx, unlock_ret, lock_seq, lock_cell, lockO_ok, evI_cell, iterO_ok, unlN_ok, unlock_nxs, lock_rng1, evI_rng3, lock_rng3, lock_rng2, lock_enum, lock_text, cmp_lt, cmp_le, cmp_gt, cmp_ge, cmp_eqi, cmp_nei, cmp_eqb, cmp_neb, b_add, b_sub, bi_abs, bi_int, len_lst, len_tup, len_scr, ix_lst, ix_tup, ix_scr, at_0, at_1, at_2, at_3, isN_non, isN_int, isN_tup, isN_lst, isN_str, isN_bl, List.getElem?_cons_succ, List.getElem?_cons_zero, Option.map_some, List.set_cons_succ, List.set_cons_zero, getF_ok (show (dS acc)[0]? = some (.lst (acc.map .int)) from rfl)]
    · have : ∀ l : List Int, ltL (l.map D.int) 0 = true := fun l => by induction l with
        | nil => rfl
        | cons a l ih => simp [ltL, D.lt, ih]
      exact (expo_flat (n := 0) (show (D.lst (acc.map .int)).lt 0 = true from this acc)).trans rfl
end MI.K
set_option exponentiation.threshold 5000
namespace MI.K
open PySem PySem.Spec L2
/-! ### words and numbers -/
theorem str_app_len (a b : Str) : (a ++ b).length = a.length + b.length := by
  show (a.cps ++ b.cps).size = a.cps.size + b.cps.size
  exact Array.size_append
theorem len_str {z : Str} {S : Store} (h : z.length ≤ 1000000) : biD .len [.str z] S = some (.int (z.length : Int)) := by
  show ((if z.length ≤ 1000000 then some z.length else none).map fun (n : Nat) => D.int (n : Int)) = _
  rw [if_pos h]; rfl
theorem b_adds {a b : Str} {S : Store} (h : a.length + b.length ≤ 1000000) : binD .add (.str a) (.str b) S = some (.str (a ++ b)) := by
  show (if a.length + b.length ≤ 1000000 then some (D.str (a ++ b)) else none) = _
  rw [if_pos h]
theorem ix_str {z : Str} {S : Store} {i : Int} (hz : z.length ≤ 1000000) (h0 : 0 ≤ i) (h1 : i < z.length) : ∃ c : Str, ixD (.str z) (.int i) S = some (.str c) ∧ c.length = 1 := by
  have hk : i.toNat < z.cps.toList.length := by show i.toNat < z.cps.size; have : z.length = z.cps.size := rfl; omega
  have e := atI_nat (xs := z.cps.toList) (j := i.toNat) (List.getElem?_eq_getElem hk)
  rw [Int.toNat_of_nonneg h0] at e
  refine ⟨⟨#[z.cps.toList[i.toNat]]⟩, ?_, rfl⟩
  show (if z.length ≤ 1000000 then (atI z.cps.toList i).map fun c => D.str ⟨#[c]⟩ else none) = _
  rw [if_pos hz, e]; rfl
theorem memD_strs (w : Str) : ∀ l : List Str, memD (.str w) (l.map .str) = some (l.any fun z => z == w)
  | [] => rfl
  | z :: l => by
    show (match eqD (.str z) (.str w) with | some b => (match memD (.str w) (l.map .str) with | some c => some (b || c) | none => none) | none => none) = _
    rw [memD_strs w l]
    rfl
theorem flat_strs : ∀ l : List Str, (l.map D.str).all flatD = true
  | [] => rfl
  | z :: l => by rw [List.map_cons, List.all_cons, flat_strs l]; rfl
theorem in_lst {w : Str} {l : List Str} {S : Store} : cmpD .inn (.str w) (.lst (l.map .str)) S = some (l.any fun z => z == w) := by
  show (if (flatD (.str w) && (l.map D.str).all flatD) || _ then memD (.str w) (l.map .str) else none) = _
  rw [flat_strs, memD_strs]; rfl
theorem in_ptr {w : Str} {l : List Str} {S : Store} {n : Nat} (h : S[n]? = some (.lst (l.map .str))) : cmpD .inn (.str w) (.ptr n) S = some (l.any fun z => z == w) := by
  have e1 : isDict (.ptr n) S = false := by unfold isDict; simp only [h]
  have e2 : seqOf (.ptr n) S = some (l.map .str) := by unfold seqOf; simp only [h]
  show (if isDict (.ptr n) S = true then _ else (match seqOf (.ptr n) S with | some ds => if (flatD (.str w) && ds.all flatD) || _ then memD (.str w) ds else none | none => none)) = _
  rw [e1, e2]
  show (if (flatD (.str w) && (l.map D.str).all flatD) || _ then memD (.str w) (l.map .str) else none) = _
  rw [flat_strs, memD_strs]; rfl
theorem r_Lrun {ds : List Int} {k : Nat} {m : Int} {cs : Str} {T : Store} (h0 : 0 ≤ m) (h1 : m ≤ 1000) (hc : 0 < cs.length) (hc2 : cs.length ≤ 1000) :
    ∃ z k', f_Lrun [.ptr 0, .int m, .str cs] (bxC ds k :: T) = .ok (.str z) (bxC ds k' :: T) ∧ (z.length : Int) ≤ m := by
  obtain ⟨ρ', S', q1, q2⟩ := forL_inv (f := turnF (.name 4) b_Lrun_1) (I := fun i ρ S => ∃ z k' x4, ρ = [some (.ptr 0), some (.int m), some (.str cs), some (.str z), x4] ∧ S = bxC ds k' :: T ∧ z.length ≤ i) (rangeD 0 m) 0
    [some (.ptr 0), some (.int m), some (.str cs), some (.str ""), none] (bxC ds k :: T) ⟨"", k, none, rfl, rfl, Nat.le_refl _⟩ (by
    rintro i d ρ S hd ⟨z, k', x4, rfl, rfl, hz⟩
    obtain ⟨rfl, hj⟩ := rangeD_get hd
    have hl := drw_lt (ds := ds) (k := k') (m := (cs.length : Int)) (by omega)
    obtain ⟨c, ec, lc⟩ := ix_str (z := cs) (S := bxC ds (k' + 1) :: T) (i := drw ds k' cs.length) (by omega) hl.1 hl.2
    refine ⟨_, _, ?_, z ++ c, k' + 1, some (.int (0 + (i : Int))), rfl, rfl, by rw [str_app_len]; omega⟩
    show exs b_Lrun_1 [some (.ptr 0), some (.int m), some (.str cs), some (.str z), some (.int (0 + (i : Int)))] (bxC ds k' :: T) = _
    unfold b_Lrun_1
    simp only [bind_ok, fl_ok, of_some, seq_nx, seq_ret, pick_t, pick_f, getV_ok, putE_ok, putS_ok, ev_var, ev_non, ev_bl, ev_int, ev_str, ev_glob, ev_bin, ev_cmp, negD_int, ev_neg, notD_bl, ev_not, ev_band, ev_bor, pickE_t, pickE_f, and_1, and_c, or_1, or_c, ev_chain, ev_isN, ev_notN, ev_ite, ev_call, ev_bi, ev_tup, ev_new, new_f, ev_dnewK, ev_dnewT, ev_ix, ev_sl, ev_frz, evs_nil, evs_cons, evN_n, intN_int, evN_s, evO_n, evO_s, evL_disp, ev_join, joinM_s, evL_sorted, evL_sortk, evL_list, ev_dcomp, ex_rem, cmp_eqd, cmp_ned, iterL_t, iterL_l, evL_lrng, evL_stp, evL_rev, revM_l, evL_cat, evL_srtd, ev_cnt, evL_keys, seq_lst, seq_tup, ex_putp, evL_cm, evI_seq, evI_rng1, evI_rng2, evI_enum, exs_nil, exs_cons, exs_frz, ex_asg, setT_n, ex_par, ex_put, ex_aug, augD_ok, ex_drop, ex_app, ex_ifs, ex_for, ex_while, ex_ret, ex_retN, ex_pass, unlock_nx, unlock_ret, lock_seq, lock_cell, lockO_ok, evI_cell, iterO_ok, unlN_ok, unlock_nxs, lock_rng1, evI_rng3, lock_rng3, lock_rng2, lock_enum, lock_text, cmp_lt, cmp_le, cmp_gt, cmp_ge, cmp_eqi, cmp_nei, cmp_eqb, cmp_neb, b_add, b_sub, bi_abs, bi_int, len_lst, len_tup, len_scr, ix_lst, ix_tup, ix_scr, at_0, at_1, at_2, at_3, isN_non, isN_int, isN_tup, isN_lst, isN_str, isN_bl, List.getElem?_cons_succ, List.getElem?_cons_zero, Option.map_some, List.set_cons_succ, List.set_cons_zero, len_str (show cs.length ≤ 1000000 by omega), r_Ldraw (show (0 : Int) < cs.length by omega), ec, b_adds (show z.length + c.length ≤ 1000000 by omega)])
  obtain ⟨z, k', x4, rfl, rfl, hz⟩ := q2
  rw [rangeD_len] at hz
  refine ⟨z, k', fn_same (k := 5) rfl ?_ rfl rfl, by omega⟩
  have sm : small62 m = true := by have := small_ok (n := m.toNat) (by omega); rw [Int.toNat_of_nonneg h0] at this; exact this
  show exs c_Lrun [some (.ptr 0), some (.int m), some (.str cs), none, none] (bxC ds k :: T) = _
  unfold c_Lrun
  simp only [bind_ok, fl_ok, of_some, seq_nx, seq_ret, pick_t, pick_f, getV_ok, putE_ok, putS_ok, ev_var, ev_non, ev_bl, ev_int, ev_str, ev_glob, ev_bin, ev_cmp, negD_int, ev_neg, notD_bl, ev_not, ev_band, ev_bor, pickE_t, pickE_f, and_1, and_c, or_1, or_c, ev_chain, ev_isN, ev_notN, ev_ite, ev_call, ev_bi, ev_tup, ev_new, new_f, ev_dnewK, ev_dnewT, ev_ix, ev_sl, ev_frz, evs_nil, evs_cons, evN_n, intN_int, evN_s, evO_n, evO_s, evL_disp, ev_join, joinM_s, evL_sorted, evL_sortk, evL_list, ev_dcomp, ex_rem, cmp_eqd, cmp_ned, iterL_t, iterL_l, evL_lrng, evL_stp, evL_rev, revM_l, evL_cat, evL_srtd, ev_cnt, evL_keys, seq_lst, seq_tup, ex_putp, evL_cm, evI_seq, evI_rng1, evI_rng2, evI_enum, exs_nil, exs_cons, exs_frz, ex_asg, setT_n, ex_par, ex_put, ex_aug, augD_ok, ex_drop, ex_app, ex_ifs, ex_for, ex_while, ex_ret, ex_retN, ex_pass, unlock_nx, unlock_ret, lock_seq, lock_cell, lockO_ok, evI_cell, iterO_ok, unlN_ok, unlock_nxs, lock_rng1, evI_rng3, lock_rng3, lock_rng2, lock_enum, lock_text, cmp_lt, cmp_le, cmp_gt, cmp_ge, cmp_eqi, cmp_nei, cmp_eqb, cmp_neb, b_add, b_sub, bi_abs, bi_int, len_lst, len_tup, len_scr, ix_lst, ix_tup, ix_scr, at_0, at_1, at_2, at_3, isN_non, isN_int, isN_tup, isN_lst, isN_str, isN_bl, List.getElem?_cons_succ, List.getElem?_cons_zero, Option.map_some, List.set_cons_succ, List.set_cons_zero, rngD_ok sm, q1]
theorem r_Lword {ds : List Int} {k m : Nat} {names : List Str} {T : Store} (hT : T[m]? = some (.lst (names.map .str))) :
    ∃ z k', f_Lword [.ptr 0, .ptr (m + 1)] (bxC ds k :: T) = .ok (.str z) (bxC ds k' :: T) ∧ z.length ≤ 18 := by
  have l1 := drw_lt (ds := ds) (k := k) (m := 6) (by decide)
  obtain ⟨z0, k0, e0, lz⟩ := r_Lrun (ds := ds) (k := k + 1) (m := 1 + drw ds k 6) (cs := "abcdefghijklmnopqrstuvwxyz") (T := T) (by omega) (by omega) (by decide +kernel) (by decide +kernel)
  obtain ⟨ρ', S', q1, q2⟩ := forL_inv (f := turnF (.name 3) b_Lword_1) (I := fun i ρ S => ∃ z x3, ρ = [some (.ptr 0), some (.ptr (m + 1)), some (.str z), x3] ∧ S = bxC ds k0 :: T ∧ z.length ≤ 6 + i) (rangeD 0 12) 0
    [some (.ptr 0), some (.ptr (m + 1)), some (.str z0), none] (bxC ds k0 :: T) ⟨z0, none, rfl, rfl, by omega⟩ (by
    rintro i d ρ S hd ⟨z, x3, rfl, rfl, hz⟩
    obtain ⟨rfl, hj⟩ := rangeD_get hd
    have hi : i < 12 := by omega
    have hS : (bxC ds k0 :: T)[m + 1]? = some (.lst (names.map .str)) := hT
    obtain ⟨c, ec, lc⟩ := ix_str (z := "abcdefghijkl") (S := bxC ds k0 :: T) (i := 0 + (i : Int)) (by decide +kernel) (by omega) (by show 0 + (i : Int) < ((12 : Nat) : Int); omega)
    have esl : slD (.str z) none (some 7) (bxC ds k0 :: T) = some (.str (Txt.slice z none (some 7))) := by
      show (if z.length ≤ 1000000 then _ else _) = _
      rw [if_pos (by omega)]
    have lsl := Txt.slice_le z none (some 7)
    have ein : cmpD .inn (.str z) (.lst [.str "loft", .str "at", .str "bird", .str "of", .str "year", .str "race", .str "from", .str "start", .str "close", .str "dark", .str "to"]) (bxC ds k0 :: T) = _ :=
      in_lst (w := z) (l := ["loft", "at", "bird", "of", "year", "race", "from", "start", "close", "dark", "to"])
    refine ⟨[some (.ptr 0), some (.ptr (m + 1)), some (.str (if names.any (fun y => y == z) || (["loft", "at", "bird", "of", "year", "race", "from", "start", "close", "dark", "to"] : List Str).any (fun y => y == z) then Txt.slice z none (some 7) ++ c else z)), some (.int (0 + (i : Int)))], bxC ds k0 :: T, ?_, _, _, rfl, rfl, ?_⟩
    · show exs b_Lword_1 [some (.ptr 0), some (.ptr (m + 1)), some (.str z), some (.int (0 + (i : Int)))] (bxC ds k0 :: T) = _
      unfold b_Lword_1
      cases h1 : names.any (fun y => y == z) with
      | true => simp only [bind_ok, fl_ok, of_some, seq_nx, seq_ret, pick_t, pick_f, getV_ok, putE_ok, putS_ok, ev_var, ev_non, ev_bl, ev_int, ev_str, ev_glob, ev_bin, ev_cmp, negD_int, ev_neg, notD_bl, ev_not, ev_band, ev_bor, pickE_t, pickE_f, and_1, and_c, or_1, or_c, ev_chain, ev_isN, ev_notN, ev_ite, ev_call, ev_bi, ev_tup, ev_new, new_f, ev_dnewK, ev_dnewT, ev_ix, ev_sl, ev_frz, evs_nil, evs_cons, evN_n, intN_int, evN_s, evO_n, evO_s, evL_disp, ev_join, joinM_s, evL_sorted, evL_sortk, evL_list, ev_dcomp, ex_rem, cmp_eqd, cmp_ned, iterL_t, iterL_l, evL_lrng, evL_stp, evL_rev, revM_l, evL_cat, evL_srtd, ev_cnt, evL_keys, seq_lst, seq_tup, ex_putp, evL_cm, evI_seq, evI_rng1, evI_rng2, evI_enum, exs_nil, exs_cons, exs_frz, ex_asg, setT_n, ex_par, ex_put, ex_aug, augD_ok, ex_drop, ex_app, ex_ifs, ex_for, ex_while, ex_ret, ex_retN, ex_pass, unlock_nx, unlock_ret, lock_seq, lock_cell, lockO_ok, evI_cell, iterO_ok, unlN_ok, unlock_nxs, lock_rng1, evI_rng3, lock_rng3, lock_rng2, lock_enum, lock_text, cmp_lt, cmp_le, cmp_gt, cmp_ge, cmp_eqi, cmp_nei, cmp_eqb, cmp_neb, b_add, b_sub, bi_abs, bi_int, len_lst, len_tup, len_scr, ix_lst, ix_tup, ix_scr, at_0, at_1, at_2, at_3, isN_non, isN_int, isN_tup, isN_lst, isN_str, isN_bl, List.getElem?_cons_succ, List.getElem?_cons_zero, Option.map_some, List.set_cons_succ, List.set_cons_zero, in_ptr hS, h1, ec, esl, b_adds (show (Txt.slice z none (some 7)).length + c.length ≤ 1000000 by omega), Bool.true_or, if_true]
      | false =>
        cases h2 : (["loft", "at", "bird", "of", "year", "race", "from", "start", "close", "dark", "to"] : List Str).any (fun y => y == z) with
        | true => simp only [bind_ok, fl_ok, of_some, seq_nx, seq_ret, pick_t, pick_f, getV_ok, putE_ok, putS_ok, ev_var, ev_non, ev_bl, ev_int, ev_str, ev_glob, ev_bin, ev_cmp, negD_int, ev_neg, notD_bl, ev_not, ev_band, ev_bor, pickE_t, pickE_f, and_1, and_c, or_1, or_c, ev_chain, ev_isN, ev_notN, ev_ite, ev_call, ev_bi, ev_tup, ev_new, new_f, ev_dnewK, ev_dnewT, ev_ix, ev_sl, ev_frz, evs_nil, evs_cons, evN_n, intN_int, evN_s, evO_n, evO_s, evL_disp, ev_join, joinM_s, evL_sorted, evL_sortk, evL_list, ev_dcomp, ex_rem, cmp_eqd, cmp_ned, iterL_t, iterL_l, evL_lrng, evL_stp, evL_rev, revM_l, evL_cat, evL_srtd, ev_cnt, evL_keys, seq_lst, seq_tup, ex_putp, evL_cm, evI_seq, evI_rng1, evI_rng2, evI_enum, exs_nil, exs_cons, exs_frz, ex_asg, setT_n, ex_par, ex_put, ex_aug, augD_ok, ex_drop, ex_app, ex_ifs, ex_for, ex_while, ex_ret, ex_retN, ex_pass, unlock_nx, unlock_ret, lock_seq, lock_cell, lockO_ok, evI_cell, iterO_ok, unlN_ok, unlock_nxs, lock_rng1, evI_rng3, lock_rng3, lock_rng2, lock_enum, lock_text, cmp_lt, cmp_le, cmp_gt, cmp_ge, cmp_eqi, cmp_nei, cmp_eqb, cmp_neb, b_add, b_sub, bi_abs, bi_int, len_lst, len_tup, len_scr, ix_lst, ix_tup, ix_scr, at_0, at_1, at_2, at_3, isN_non, isN_int, isN_tup, isN_lst, isN_str, isN_bl, List.getElem?_cons_succ, List.getElem?_cons_zero, Option.map_some, List.set_cons_succ, List.set_cons_zero, in_ptr hS, h1, ein, h2, ec, esl, b_adds (show (Txt.slice z none (some 7)).length + c.length ≤ 1000000 by omega), Bool.or_true, if_true]
        | false => simp only [bind_ok, fl_ok, of_some, seq_nx, seq_ret, pick_t, pick_f, getV_ok, putE_ok, putS_ok, ev_var, ev_non, ev_bl, ev_int, ev_str, ev_glob, ev_bin, ev_cmp, negD_int, ev_neg, notD_bl, ev_not, ev_band, ev_bor, pickE_t, pickE_f, and_1, and_c, or_1, or_c, ev_chain, ev_isN, ev_notN, ev_ite, ev_call, ev_bi, ev_tup, ev_new, new_f, ev_dnewK, ev_dnewT, ev_ix, ev_sl, ev_frz, evs_nil, evs_cons, evN_n, intN_int, evN_s, evO_n, evO_s, evL_disp, ev_join, joinM_s, evL_sorted, evL_sortk, evL_list, ev_dcomp, ex_rem, cmp_eqd, cmp_ned, iterL_t, iterL_l, evL_lrng, evL_stp, evL_rev, revM_l, evL_cat, evL_srtd, ev_cnt, evL_keys, seq_lst, seq_tup, ex_putp, evL_cm, evI_seq, evI_rng1, evI_rng2, evI_enum, exs_nil, exs_cons, exs_frz, ex_asg, setT_n, ex_par, ex_put, ex_aug, augD_ok, ex_drop, ex_app, ex_ifs, ex_for, ex_while, ex_ret, ex_retN, ex_pass, unlock_nx, unlock_ret, lock_seq, lock_cell, lockO_ok, evI_cell, iterO_ok, unlN_ok, unlock_nxs, lock_rng1, evI_rng3, lock_rng3, lock_rng2, lock_enum, lock_text, cmp_lt, cmp_le, cmp_gt, cmp_ge, cmp_eqi, cmp_nei, cmp_eqb, cmp_neb, b_add, b_sub, bi_abs, bi_int, len_lst, len_tup, len_scr, ix_lst, ix_tup, ix_scr, at_0, at_1, at_2, at_3, isN_non, isN_int, isN_tup, isN_lst, isN_str, isN_bl, List.getElem?_cons_succ, List.getElem?_cons_zero, Option.map_some, List.set_cons_succ, List.set_cons_zero, in_ptr hS, h1, ein, h2, Bool.or_false, Bool.false_eq_true, if_false]
    · split
      · rw [str_app_len]; omega
      · omega)
  obtain ⟨z, x3, rfl, rfl, hz⟩ := q2
  rw [rangeD_len] at hz
  refine ⟨z, k0, fn_same (k := 4) rfl ?_ rfl rfl, by have : ((12 : Int) - 0).toNat = 12 := rfl; omega⟩
  show exs c_Lword [some (.ptr 0), some (.ptr (m + 1)), none, none] (bxC ds k :: T) = _
  unfold c_Lword
  simp only [bind_ok, fl_ok, of_some, seq_nx, seq_ret, pick_t, pick_f, getV_ok, putE_ok, putS_ok, ev_var, ev_non, ev_bl, ev_int, ev_str, ev_glob, ev_bin, ev_cmp, negD_int, ev_neg, notD_bl, ev_not, ev_band, ev_bor, pickE_t, pickE_f, and_1, and_c, or_1, or_c, ev_chain, ev_isN, ev_notN, ev_ite, ev_call, ev_bi, ev_tup, ev_new, new_f, ev_dnewK, ev_dnewT, ev_ix, ev_sl, ev_frz, evs_nil, evs_cons, evN_n, intN_int, evN_s, evO_n, evO_s, evL_disp, ev_join, joinM_s, evL_sorted, evL_sortk, evL_list, ev_dcomp, ex_rem, cmp_eqd, cmp_ned, iterL_t, iterL_l, evL_lrng, evL_stp, evL_rev, revM_l, evL_cat, evL_srtd, ev_cnt, evL_keys, seq_lst, seq_tup, ex_putp, evL_cm, evI_seq, evI_rng1, evI_rng2, evI_enum, exs_nil, exs_cons, exs_frz, ex_asg, setT_n, ex_par, ex_put, ex_aug, augD_ok, ex_drop, ex_app, ex_ifs, ex_for, ex_while, ex_ret, ex_retN, ex_pass, unlock_nx, unlock_ret, lock_seq, lock_cell, lockO_ok, evI_cell, iterO_ok, unlN_ok, unlock_nxs, lock_rng1, evI_rng3, lock_rng3, lock_rng2, lock_enum, lock_text, cmp_lt, cmp_le, cmp_gt, cmp_ge, cmp_eqi, cmp_nei, cmp_eqb, cmp_neb, b_add, b_sub, bi_abs, bi_int, len_lst, len_tup, len_scr, ix_lst, ix_tup, ix_scr, at_0, at_1, at_2, at_3, isN_non, isN_int, isN_tup, isN_lst, isN_str, isN_bl, List.getElem?_cons_succ, List.getElem?_cons_zero, Option.map_some, List.set_cons_succ, List.set_cons_zero, r_Ldraw (show (0 : Int) < 6 by decide), e0, rngD_ok (show small62 12 = true by decide +kernel), q1]
theorem r_Lnumber {ds : List Int} {k : Nat} {s : Int} {T : Store} (h0 : 0 ≤ s) (h1 : s ≤ 1000000) : ∃ v : Int, f_Lnumber [.ptr 0, .int s] (bxC ds k :: T) = .ok (.int v) (bxC ds (k + 1 + 1) :: T) ∧ -s ≤ v ∧ v ≤ s := by
  have hm : 0 < 2 * s + 1 := by omega
  have p1 : 0 ≤ (drw ds k 1000 * 1000 + drw ds (k + 1) 1000) % (2 * s + 1) := Int.emod_nonneg _ (by omega)
  have p2 := Int.emod_lt_of_pos (drw ds k 1000 * 1000 + drw ds (k + 1) 1000) hm
  refine ⟨(drw ds k 1000 * 1000 + drw ds (k + 1) 1000) % (2 * s + 1) - s, fn_same (k := 2) rfl ?_ rfl rfl, by omega, by omega⟩
  show exs c_Lnumber [some (.ptr 0), some (.int s)] (bxC ds k :: T) = _
  unfold c_Lnumber
  simp only [bind_ok, fl_ok, of_some, seq_nx, seq_ret, pick_t, pick_f, getV_ok, putE_ok, putS_ok, ev_var, ev_non, ev_bl, ev_int, ev_str, ev_glob, ev_bin, ev_cmp, negD_int, ev_neg, notD_bl, ev_not, ev_band, ev_bor, pickE_t, pickE_f, and_1, and_c, or_1, or_c, ev_chain, ev_isN, ev_notN, ev_ite, ev_call, ev_bi, ev_tup, ev_new, new_f, ev_dnewK, ev_dnewT, ev_ix, ev_sl, ev_frz, evs_nil, evs_cons, evN_n, intN_int, evN_s, evO_n, evO_s, evL_disp, ev_join, joinM_s, evL_sorted, evL_sortk, evL_list, ev_dcomp, ex_rem, cmp_eqd, cmp_ned, iterL_t, iterL_l, evL_lrng, evL_stp, evL_rev, revM_l, evL_cat, evL_srtd, ev_cnt, evL_keys, seq_lst, seq_tup, ex_putp, evL_cm, evI_seq, evI_rng1, evI_rng2, evI_enum, exs_nil, exs_cons, exs_frz, ex_asg, setT_n, ex_par, ex_put, ex_aug, augD_ok, ex_drop, ex_app, ex_ifs, ex_for, ex_while, ex_ret, ex_retN, ex_pass, unlock_nx, unlock_ret, lock_seq, lock_cell, lockO_ok, evI_cell, iterO_ok, unlN_ok, unlock_nxs, lock_rng1, evI_rng3, lock_rng3, lock_rng2, lock_enum, lock_text, cmp_lt, cmp_le, cmp_gt, cmp_ge, cmp_eqi, cmp_nei, cmp_eqb, cmp_neb, b_add, b_sub, bi_abs, bi_int, len_lst, len_tup, len_scr, ix_lst, ix_tup, ix_scr, at_0, at_1, at_2, at_3, isN_non, isN_int, isN_tup, isN_lst, isN_str, isN_bl, List.getElem?_cons_succ, List.getElem?_cons_zero, Option.map_some, List.set_cons_succ, List.set_cons_zero, r_Ldraw (show (0 : Int) < 1000 by decide), b_mul (mul_okr (show (1000 : Int).natAbs < 18446744073709551616 by decide)), b_mul (mul_okl (show (2 : Int).natAbs < 18446744073709551616 by decide)), b_mod hm]
end MI.K
set_option exponentiation.threshold 5000
namespace MI.K
open PySem PySem.Spec L2
/-! ### the club -/
structure Loft where
  n : Str
  x : Int
  y : Int
structure Bird where
  r : Int
  l : Int
  y : Int
structure Race where
  n : Str
  x : Int
  y : Int
  st : Int
  cl : Int
  du : Int
  da : Int
structure Club where
  lofts : List Loft
  birds : List Bird
  races : List Race
def Loft.d (l : Loft) : D := .tup [.str l.n, .int l.x, .int l.y]
def Bird.d (b : Bird) : D := .tup [.int b.r, .int b.l, .int b.y]
def Race.d (r : Race) : D := .tup [.str r.n, .int r.x, .int r.y, .int r.st, .int r.cl, .int r.du, .int r.da]
def Club.d (c : Club) : D := .tup [.tup (c.lofts.map Loft.d), .tup (c.birds.map Bird.d), .tup (c.races.map Race.d)]
structure LoftOk (l : Loft) : Prop where
  n : l.n.length ≤ 18
  x0 : -9999 ≤ l.x
  x1 : l.x ≤ 9999
  y0 : -9999 ≤ l.y
  y1 : l.y ≤ 9999
structure BirdOk (m : Nat) (b : Bird) : Prop where
  r0 : 1 ≤ b.r
  r1 : b.r ≤ 999
  l0 : 0 ≤ b.l
  l1 : b.l < m
  y0 : 0 ≤ b.y
  y1 : b.y < 100
structure RaceOk (ls : List Loft) (r : Race) : Prop where
  n : r.n.length ≤ 18
  x0 : -9999 ≤ r.x
  x1 : r.x ≤ 9999
  y0 : -9999 ≤ r.y
  y1 : r.y ≤ 9999
  away : ∀ l ∈ ls, ¬ (l.x = r.x ∧ l.y = r.y)
  s0 : 0 ≤ r.st
  s1 : r.st ≤ 9998
  c0 : r.st + 1 ≤ r.cl
  c1 : r.cl ≤ r.st + 4000
  u0 : 0 ≤ r.du
  u1 : r.du < 1440
  a0 : 0 ≤ r.da
  a1 : r.da < 1440
structure ClubOk (nl nb nr : Int) (c : Club) : Prop where
  l0 : 0 < c.lofts.length
  l1 : (c.lofts.length : Int) ≤ nl
  b1 : (c.birds.length : Int) ≤ nb
  r1 : (c.races.length : Int) ≤ nr
  lo : ∀ l ∈ c.lofts, LoftOk l
  bi : ∀ b ∈ c.birds, BirdOk c.lofts.length b
  nd : (c.birds.map Bird.r).Nodup
  ra : ∀ r ∈ c.races, RaceOk c.lofts r
theorem lt_map {α : Type} {g : α → D} {n : Nat} (h : ∀ a, (g a).lt n = true) : ∀ l : List α, ltL (l.map g) n = true
  | [] => rfl
  | a :: l => by
    show ((g a).lt n && ltL (l.map g) n) = true
    rw [h a, lt_map h l]; rfl
theorem Club.lt (c : Club) (n : Nat) : c.d.lt n = true := by
  show (ltL (c.lofts.map Loft.d) n && (ltL (c.birds.map Bird.d) n && (ltL (c.races.map Race.d) n && true))) = true
  rw [lt_map (fun _ => rfl), lt_map (fun _ => rfl), lt_map (fun _ => rfl)]; rfl
end MI.K
set_option exponentiation.threshold 5000
namespace MI.K
open PySem PySem.Spec L2
def stC (ds : List Int) (k : Nat) (names : List Str) (R0 : List Loft) (R1 : List Bird) (R2 : List Race) (T : Store) : Store :=
  bxC ds k :: .lst (names.map .str) :: .lst (R0.map Loft.d) :: .lst (R1.map Bird.d) :: .lst (R2.map Race.d) :: T
theorem at_last {l : List D} {d : D} : atI (l ++ [d]) (-1) = some d := by
  have e : ixN (l ++ [d]).length (-1) = some l.length := by
    unfold ixN
    rw [if_neg (by decide), List.length_append]
    simp only [List.length_cons, List.length_nil]
    rw [if_pos (by omega)]
    congr 1
    omega
  unfold atI
  rw [e]
  show (l ++ [d])[l.length]? = _
  simp
theorem ix_1 {c0 : Cell} {l : List D} {T : Store} {j : Int} : ixD (.ptr 1) (.int j) (c0 :: .lst l :: T) = atI l j := ix_ptr (n := 1) (rfl)
theorem len_ptr {n : Nat} {S : Store} {ds : List D} (h : S[n]? = some (.lst ds)) : biD .len [.ptr n] S = some (.int ds.length) := by
  show (lenD (.ptr n) S).map (fun (n : Nat) => D.int (n : Int)) = _
  unfold lenD
  simp only [h, seqOf]
  rfl
theorem club_1 {ds : List Int} {k : Nat} {names : List Str} {R0 : List Loft} {size : Int} {nl nb nr d : D} {x7 x8 x9 x10 x11 x12 x13 x14 x15 x16 x17 : Option D} {T : Store} (h0 : 0 ≤ size) (h1 : size ≤ 9999) (hn : names.length < 1000) (hr : R0.length < 1000) :
    ∃ z k' x y, turnF (.name 7) b_Lclub_1 d [some (.ptr 0), some nl, some nb, some nr, some (.ptr 1), some (.lst [.ptr 2, .ptr 3, .ptr 4]), some (.int size), x7, x8, x9, x10, x11, x12, x13, x14, x15, x16, x17] (stC ds k names R0 [] [] T) =
      .nx [some (.ptr 0), some nl, some nb, some nr, some (.ptr 1), some (.lst [.ptr 2, .ptr 3, .ptr 4]), some (.int size), some d, x8, x9, x10, x11, x12, x13, x14, x15, x16, x17] (stC ds k' (names ++ [z]) (R0 ++ [⟨z, x, y⟩]) [] [] T) ∧ LoftOk ⟨z, x, y⟩ := by
  obtain ⟨z, k1, ez, lz⟩ := r_Lword (ds := ds) (k := k) (m := 0) (names := names) (T := .lst (names.map .str) :: .lst (R0.map Loft.d) :: .lst [] :: .lst [] :: T) rfl
  obtain ⟨x, ex, hx1, hx2⟩ := r_Lnumber (ds := ds) (k := k1) (s := size) (T := .lst (names.map .str ++ [.str z]) :: .lst (R0.map Loft.d) :: .lst [] :: .lst [] :: T) h0 (by omega)
  obtain ⟨y, ey, hy1, hy2⟩ := r_Lnumber (ds := ds) (k := k1 + 1 + 1) (s := size) (T := .lst (names.map .str ++ [.str z]) :: .lst (R0.map Loft.d) :: .lst [] :: .lst [] :: T) h0 (by omega)
  refine ⟨z, k1 + 1 + 1 + 1 + 1, x, y, ?_, ⟨lz, by show -9999 ≤ x; omega, by show x ≤ 9999; omega, by show -9999 ≤ y; omega, by show y ≤ 9999; omega⟩⟩
  show exs b_Lclub_1 [some (.ptr 0), some nl, some nb, some nr, some (.ptr 1), some (.lst [.ptr 2, .ptr 3, .ptr 4]), some (.int size), some d, x8, x9, x10, x11, x12, x13, x14, x15, x16, x17] (bxC ds k :: .lst (names.map .str) :: .lst (R0.map Loft.d) :: .lst [] :: .lst [] :: T) = _
  unfold b_Lclub_1
  simp only [bind_ok, fl_ok, of_some, seq_nx, seq_ret, pick_t, pick_f, getV_ok, putE_ok, putS_ok, ev_var, ev_non, ev_bl, ev_int, ev_str, ev_glob, ev_bin, ev_cmp, negD_int, ev_neg, notD_bl, ev_not, ev_band, ev_bor, pickE_t, pickE_f, and_1, and_c, or_1, or_c, ev_chain, ev_isN, ev_notN, ev_ite, ev_call, ev_bi, ev_tup, ev_new, new_f, ev_dnewK, ev_dnewT, ev_ix, ev_sl, ev_frz, evs_nil, evs_cons, evN_n, intN_int, evN_s, evO_n, evO_s, evL_disp, ev_join, joinM_s, evL_sorted, evL_sortk, evL_list, ev_dcomp, ex_rem, cmp_eqd, cmp_ned, iterL_t, iterL_l, evL_lrng, evL_stp, evL_rev, revM_l, evL_cat, evL_srtd, ev_cnt, evL_keys, seq_lst, seq_tup, ex_putp, evL_cm, evI_seq, evI_rng1, evI_rng2, evI_enum, exs_nil, exs_cons, exs_frz, ex_asg, setT_n, ex_par, ex_put, ex_aug, augD_ok, ex_drop, ex_app, ex_ifs, ex_for, ex_while, ex_ret, ex_retN, ex_pass, unlock_nx, unlock_ret, lock_seq, lock_cell, lockO_ok, evI_cell, iterO_ok, unlN_ok, unlock_nxs, lock_rng1, evI_rng3, lock_rng3, lock_rng2, lock_enum, lock_text, cmp_lt, cmp_le, cmp_gt, cmp_ge, cmp_eqi, cmp_nei, cmp_eqb, cmp_neb, b_add, b_sub, bi_abs, bi_int, len_lst, len_tup, len_scr, ix_lst, ix_tup, ix_scr, at_0, at_1, at_2, at_3, isN_non, isN_int, isN_tup, isN_lst, isN_str, isN_bl, List.getElem?_cons_succ, List.getElem?_cons_zero, Option.map_some, List.set_cons_succ, List.set_cons_zero, cell_1, cell_2, if_true, ez, app_1 (show (D.str z).lt 1 = true from rfl) (show (names.map D.str).length < 1000000 by rw [List.length_map]; omega), ix_1, at_last, ex, ey,
    app_2 (show (D.tup [.str z, .int x, .int y]).lt 2 = true from rfl) (show (R0.map Loft.d).length < 1000000 by rw [List.length_map]; omega), stC, List.map_append, List.map_cons, List.map_nil, Loft.d]
theorem memD_int {r : Int} : ∀ l : List Int, memD (.int r) (l.map .int) = some (l.any fun z => z == r)
  | [] => rfl
  | z :: l => by
    show (match eqD (.int z) (.int r) with | some b => (match memD (.int r) (l.map .int) with | some c => some (b || c) | none => none) | none => none) = _
    rw [memD_int l]
    rfl
theorem flat_ints : ∀ l : List Int, (l.map D.int).all flatD = true
  | [] => rfl
  | z :: l => by rw [List.map_cons, List.all_cons, flat_ints l]; rfl
theorem notin_ints {r : Int} {l : List Int} {S : Store} {n : Nat} (h : S[n]? = some (.lst (l.map .int))) : cmpD .notin (.int r) (.ptr n) S = some (!(l.any fun z => z == r)) := by
  have e1 : isDict (.ptr n) S = false := by unfold isDict; simp only [h]
  have e2 : seqOf (.ptr n) S = some (l.map .int) := by unfold seqOf; simp only [h]
  show (if isDict (.ptr n) S = true then _ else (match seqOf (.ptr n) S with | some ds => if (flatD (.int r) && ds.all flatD) || _ then (memD (.int r) ds).map (!·) else none | none => none)) = _
  rw [e1, e2]
  show (if (flatD (.int r) && (l.map D.int).all flatD) || _ then (memD (.int r) (l.map .int)).map (!·) else none) = _
  rw [flat_ints, memD_int]; rfl
theorem any_eq {l : List Int} {r : Int} (h : (l.any fun z => z == r) = false) : r ∉ l := fun hm => by
  have := List.any_eq_false.mp h r hm
  simp at this
theorem club_2 {ds : List Int} {k : Nat} {names : List Str} {R0 : List Loft} {R1 : List Bird} {size : Int} {nl nb nr d : D} {x7 x9 x10 x11 x12 x13 x14 x15 x16 x17 : Option D} (h0 : 0 < R0.length) (hr : R1.length < 1000) :
    ∃ k' x10' R1', turnF (.name 7) b_Lclub_2 d [some (.ptr 0), some nl, some nb, some nr, some (.ptr 1), some (.lst [.ptr 2, .ptr 3, .ptr 4]), some (.int size), x7, some (.ptr 5), x9, x10, x11, x12, x13, x14, x15, x16, x17] (stC ds k names R0 R1 [] [.lst ((R1.map Bird.r).map .int)]) =
      .nx [some (.ptr 0), some nl, some nb, some nr, some (.ptr 1), some (.lst [.ptr 2, .ptr 3, .ptr 4]), some (.int size), some d, some (.ptr 5), x9, x10', x11, x12, x13, x14, x15, x16, x17] (stC ds k' names R0 R1' [] [.lst ((R1'.map Bird.r).map .int)]) ∧
      (R1' = R1 ∨ ∃ b, R1' = R1 ++ [b] ∧ BirdOk R0.length b ∧ b.r ∉ R1.map Bird.r) := by
  have l1 := drw_lt (ds := ds) (k := k) (m := 999) (by decide)
  have hS : ∀ k', (stC ds k' names R0 R1 [] [.lst ((R1.map Bird.r).map .int)])[5]? = some (.lst ((R1.map Bird.r).map .int)) := fun _ => rfl
  cases h : (R1.map Bird.r).any fun z => z == 1 + drw ds k 999 with
  | true =>
    refine ⟨k + 1, some (.int (1 + drw ds k 999)), R1, ?_, .inl rfl⟩
    show exs b_Lclub_2 [some (.ptr 0), some nl, some nb, some nr, some (.ptr 1), some (.lst [.ptr 2, .ptr 3, .ptr 4]), some (.int size), some d, some (.ptr 5), x9, x10, x11, x12, x13, x14, x15, x16, x17] (stC ds k names R0 R1 [] [.lst ((R1.map Bird.r).map .int)]) = _
    unfold b_Lclub_2
    have e := notin_ints (r := 1 + drw ds k 999) (hS (k + 1))
    unfold stC at e ⊢
    simp only [List.map_nil] at e ⊢
    simp only [bind_ok, fl_ok, of_some, seq_nx, seq_ret, pick_t, pick_f, getV_ok, putE_ok, putS_ok, ev_var, ev_non, ev_bl, ev_int, ev_str, ev_glob, ev_bin, ev_cmp, negD_int, ev_neg, notD_bl, ev_not, ev_band, ev_bor, pickE_t, pickE_f, and_1, and_c, or_1, or_c, ev_chain, ev_isN, ev_notN, ev_ite, ev_call, ev_bi, ev_tup, ev_new, new_f, ev_dnewK, ev_dnewT, ev_ix, ev_sl, ev_frz, evs_nil, evs_cons, evN_n, intN_int, evN_s, evO_n, evO_s, evL_disp, ev_join, joinM_s, evL_sorted, evL_sortk, evL_list, ev_dcomp, ex_rem, cmp_eqd, cmp_ned, iterL_t, iterL_l, evL_lrng, evL_stp, evL_rev, revM_l, evL_cat, evL_srtd, ev_cnt, evL_keys, seq_lst, seq_tup, ex_putp, evL_cm, evI_seq, evI_rng1, evI_rng2, evI_enum, exs_nil, exs_cons, exs_frz, ex_asg, setT_n, ex_par, ex_put, ex_aug, augD_ok, ex_drop, ex_app, ex_ifs, ex_for, ex_while, ex_ret, ex_retN, ex_pass, unlock_nx, unlock_ret, lock_seq, lock_cell, lockO_ok, evI_cell, iterO_ok, unlN_ok, unlock_nxs, lock_rng1, evI_rng3, lock_rng3, lock_rng2, lock_enum, lock_text, cmp_lt, cmp_le, cmp_gt, cmp_ge, cmp_eqi, cmp_nei, cmp_eqb, cmp_neb, b_add, b_sub, bi_abs, bi_int, len_lst, len_tup, len_scr, ix_lst, ix_tup, ix_scr, at_0, at_1, at_2, at_3, isN_non, isN_int, isN_tup, isN_lst, isN_str, isN_bl, List.getElem?_cons_succ, List.getElem?_cons_zero, Option.map_some, List.set_cons_succ, List.set_cons_zero, r_Ldraw (show (0 : Int) < 999 by decide), e, h, Bool.not_true]
  | false =>
    have l2 := drw_lt (ds := ds) (k := k + 1) (m := (R0.length : Int)) (by omega)
    have l3 := drw_lt (ds := ds) (k := k + 1 + 1) (m := 100) (by decide)
    refine ⟨k + 1 + 1 + 1, some (.int (1 + drw ds k 999)), R1 ++ [⟨1 + drw ds k 999, drw ds (k + 1) R0.length, drw ds (k + 1 + 1) 100⟩], ?_, .inr ⟨_, rfl, ⟨by show 1 ≤ 1 + _; omega, by show 1 + _ ≤ (999 : Int); omega, l2.1, l2.2, l3.1, l3.2⟩, any_eq h⟩⟩
    show exs b_Lclub_2 [some (.ptr 0), some nl, some nb, some nr, some (.ptr 1), some (.lst [.ptr 2, .ptr 3, .ptr 4]), some (.int size), some d, some (.ptr 5), x9, x10, x11, x12, x13, x14, x15, x16, x17] (stC ds k names R0 R1 [] [.lst ((R1.map Bird.r).map .int)]) = _
    unfold b_Lclub_2
    have e := notin_ints (r := 1 + drw ds k 999) (hS (k + 1))
    have el := fun (k' : Nat) (T : Store) => len_ptr (n := 2) (S := bxC ds k' :: .lst (names.map .str) :: .lst (R0.map Loft.d) :: T) (ds := R0.map Loft.d) rfl
    simp only [List.length_map] at el
    unfold stC at e ⊢
    simp only [List.map_nil] at e ⊢
    simp only [bind_ok, fl_ok, of_some, seq_nx, seq_ret, pick_t, pick_f, getV_ok, putE_ok, putS_ok, ev_var, ev_non, ev_bl, ev_int, ev_str, ev_glob, ev_bin, ev_cmp, negD_int, ev_neg, notD_bl, ev_not, ev_band, ev_bor, pickE_t, pickE_f, and_1, and_c, or_1, or_c, ev_chain, ev_isN, ev_notN, ev_ite, ev_call, ev_bi, ev_tup, ev_new, new_f, ev_dnewK, ev_dnewT, ev_ix, ev_sl, ev_frz, evs_nil, evs_cons, evN_n, intN_int, evN_s, evO_n, evO_s, evL_disp, ev_join, joinM_s, evL_sorted, evL_sortk, evL_list, ev_dcomp, ex_rem, cmp_eqd, cmp_ned, iterL_t, iterL_l, evL_lrng, evL_stp, evL_rev, revM_l, evL_cat, evL_srtd, ev_cnt, evL_keys, seq_lst, seq_tup, ex_putp, evL_cm, evI_seq, evI_rng1, evI_rng2, evI_enum, exs_nil, exs_cons, exs_frz, ex_asg, setT_n, ex_par, ex_put, ex_aug, augD_ok, ex_drop, ex_app, ex_ifs, ex_for, ex_while, ex_ret, ex_retN, ex_pass, unlock_nx, unlock_ret, lock_seq, lock_cell, lockO_ok, evI_cell, iterO_ok, unlN_ok, unlock_nxs, lock_rng1, evI_rng3, lock_rng3, lock_rng2, lock_enum, lock_text, cmp_lt, cmp_le, cmp_gt, cmp_ge, cmp_eqi, cmp_nei, cmp_eqb, cmp_neb, b_add, b_sub, bi_abs, bi_int, len_lst, len_tup, len_scr, ix_lst, ix_tup, ix_scr, at_0, at_1, at_2, at_3, isN_non, isN_int, isN_tup, isN_lst, isN_str, isN_bl, List.getElem?_cons_succ, List.getElem?_cons_zero, Option.map_some, List.set_cons_succ, List.set_cons_zero, r_Ldraw (show (0 : Int) < 999 by decide), e, h, Bool.not_false, cell_5, cell_3, if_true, app_5 (show (D.int (1 + drw ds k 999)).lt 5 = true from rfl) (show ((R1.map Bird.r).map D.int).length < 1000000 by rw [List.length_map, List.length_map]; omega),
      at_0, at_1, ix_lst, el, r_Ldraw (show (0 : Int) < (R0.length : Int) by omega), r_Ldraw (show (0 : Int) < 100 by decide),
      app_3 (show (D.tup [.int (1 + drw ds k 999), .int (drw ds (k + 1) R0.length), .int (drw ds (k + 1 + 1) 100)]).lt 3 = true from rfl) (show (R1.map Bird.d).length < 1000000 by rw [List.length_map]; omega), List.map_append, List.map_cons, List.map_nil, Bird.d]
end MI.K
set_option exponentiation.threshold 5000
namespace MI.K
open PySem PySem.Spec L2
/-! ### comprehensions -/
theorem turn_n {i : Nat} {vs : List Nat} {e : CE} {ρ : MEnv} {d : D} {S : Store} : turnC (.name i) vs .none e ρ d S = ((ev e ((wipeE ρ vs).set i (some d)) S).bind fun x S => .ok (some x) S).nox := (rfl)
def condC (b : D) (r : Rs D) (S : Store) : Rs (Option D) := match b with
  | .bl false => .ok none S
  | .bl true => r.bind fun x S => .ok (some x) S
  | _ => .stuck
theorem cond_t {r : Rs D} {S : Store} : condC (.bl true) r S = r.bind fun x S => .ok (some x) S := (rfl)
theorem cond_f {r : Rs D} {S : Store} : condC (.bl false) r S = .ok none S := (rfl)
theorem turn_c {i : Nat} {vs : List Nat} {c e : CE} {ρ : MEnv} {d : D} {S : Store} : turnC (.name i) vs (.some c) e ρ d S = ((ev c ((wipeE ρ vs).set i (some d)) S).bind fun b S => condC b (ev e ((wipeE ρ vs).set i (some d)) S) S).nox := by
  show (Rs.bind (Rs.bind (ev c ((wipeE ρ vs).set i (some d)) S) fun x S => .ok (some x) S) _).nox = _
  cases ev c ((wipeE ρ vs).set i (some d)) S with
  | ok b S => cases b with
    | bl b => cases b <;> rfl
    | _ => rfl
  | ex c fs S => rfl
  | stuck => rfl
theorem nox_ok {α : Type} {a : α} {S : Store} : (Rs.ok a S).nox = .ok a S := (rfl)
theorem compL_map {α : Type} {f : D → Store → Rs (Option D)} {g h : α → D} {S : Store} : ∀ (l : List α) (acc : List D), acc.length + l.length < 1000000 → (∀ a ∈ l, f (g a) S = .ok (some (h a)) S) → compL f (l.map g) acc S = .ok (acc ++ l.map h) S
  | [], acc, _, _ => by simp [compL]
  | a :: l, acc, hl, hf => by
    rw [List.length_cons] at hl
    show (f (g a) S).bind (fun o S1 => (match o with | some y => if acc.length < 1000000 then compL f (l.map g) (acc ++ [y]) S1 else .stuck | none => compL f (l.map g) acc S1)) = _
    rw [hf a List.mem_cons_self]
    show (if acc.length < 1000000 then compL f (l.map g) (acc ++ [h a]) S else .stuck) = _
    rw [if_pos (by omega), compL_map l (acc ++ [h a]) (by rw [List.length_append]; simp; omega) fun b hb => hf b (List.mem_cons_of_mem _ hb)]
    simp
theorem compL_filter {α : Type} {f : D → Store → Rs (Option D)} {g h : α → D} {p : α → Bool} {S : Store} : ∀ (l : List α) (acc : List D), acc.length + l.length < 1000000 → (∀ a ∈ l, f (g a) S = .ok (if p a then some (h a) else none) S) → compL f (l.map g) acc S = .ok (acc ++ (l.filter p).map h) S
  | [], acc, _, _ => by simp [compL]
  | a :: l, acc, hl, hf => by
    rw [List.length_cons] at hl
    show (f (g a) S).bind (fun o S1 => (match o with | some y => if acc.length < 1000000 then compL f (l.map g) (acc ++ [y]) S1 else .stuck | none => compL f (l.map g) acc S1)) = _
    rw [hf a List.mem_cons_self]
    cases hp : p a with
    | true =>
      show (if acc.length < 1000000 then compL f (l.map g) (acc ++ [h a]) S else .stuck) = _
      rw [if_pos (by omega), compL_filter l (acc ++ [h a]) (by rw [List.length_append]; simp; omega) fun b hb => hf b (List.mem_cons_of_mem _ hb)]
      simp [List.filter_cons, hp]
    | false =>
      show compL f (l.map g) acc S = _
      rw [compL_filter l acc (by omega) fun b hb => hf b (List.mem_cons_of_mem _ hb)]
      simp [List.filter_cons, hp]
theorem at_two {a b : D} {r : Int} (h0 : 0 ≤ r) (h1 : r < 2) : atI [a, b] r = some (if r = 0 then a else b) := by
  have : r = 0 ∨ r = 1 := by omega
  rcases this with e | e
  · subst e; exact at_0
  · subst e; exact at_1
theorem at_three {a b c : D} {r : Int} (h0 : 0 ≤ r) (h1 : r < 3) : atI [a, b, c] r = some (if r = 0 then a else if r = 1 then b else c) := by
  have : r = 0 ∨ r = 1 ∨ r = 2 := by omega
  rcases this with e | e | e
  · subst e; exact at_0
  · subst e; exact at_1
  · subst e; exact at_2
end MI.K
set_option exponentiation.threshold 5000
namespace MI.K
open PySem PySem.Spec L2
def Loft.pl (l : Loft) : D := .tup [.int l.x, .int l.y]
theorem memD_pl {x y : Int} : ∀ l : List Loft, memD (.tup [.int x, .int y]) (l.map Loft.pl) = some (l.any fun p => p.x == x && p.y == y)
  | [] => rfl
  | z :: l => by
    show (match eqD (.tup [.int z.x, .int z.y]) (.tup [.int x, .int y]) with | some b => (match memD (.tup [.int x, .int y]) (l.map Loft.pl) with | some c => some (b || c) | none => none) | none => none) = _
    rw [memD_pl l]
    show some ((z.x == x && (z.y == y && true)) || _) = _
    rw [Bool.and_true]; rfl
theorem fit_pl : ∀ l : List Loft, fitL (l.map Loft.pl) 50 = true
  | [] => rfl
  | z :: l => by
    show ((Loft.pl z).fit 50 && fitL (l.map Loft.pl) 50) = true
    rw [fit_pl l]; rfl
theorem notin_pl {x y : Int} {l : List Loft} {S : Store} : cmpD .notin (.tup [.int x, .int y]) (.lst (l.map Loft.pl)) S = some (!(l.any fun p => p.x == x && p.y == y)) := by
  show (if (flatD (.tup [.int x, .int y]) && (l.map Loft.pl).all flatD) || (isLst (.lst (l.map Loft.pl)) && ((D.tup [.int x, .int y]).fit 50 && fitL (l.map Loft.pl) 50)) then (memD (.tup [.int x, .int y]) (l.map Loft.pl)).map (!·) else none) = _
  rw [fit_pl, memD_pl]
  rfl
theorem club_3 {ds : List Int} {k : Nat} {names : List Str} {R0 : List Loft} {R1 : List Bird} {R2 : List Race} {size : Int} {nl nb nr d : D} {x7 x8 x10 x11 x12 x13 x14 x15 x16 x17 : Option D} {T : Store} (h0 : 0 ≤ size) (h1 : size ≤ 9999) (hn : names.length < 1000) (hr : R2.length < 1000) :
    ∃ names' k' R2' x11' x12' x14' x15' x16' x17', turnF (.name 7) b_Lclub_3 d [some (.ptr 0), some nl, some nb, some nr, some (.ptr 1), some (.lst [.ptr 2, .ptr 3, .ptr 4]), some (.int size), x7, x8, some (.lst (R0.map Loft.pl)), x10, x11, x12, x13, x14, x15, x16, x17] (stC ds k names R0 R1 R2 T) =
      .nx [some (.ptr 0), some nl, some nb, some nr, some (.ptr 1), some (.lst [.ptr 2, .ptr 3, .ptr 4]), some (.int size), some d, x8, some (.lst (R0.map Loft.pl)), x10, x11', x12', x13, x14', x15', x16', x17'] (stC ds k' names' R0 R1 R2' T) ∧
      names'.length ≤ names.length + 1 ∧ (R2' = R2 ∨ ∃ r, R2' = R2 ++ [r] ∧ RaceOk R0 r) := by
  obtain ⟨x, ex, hx1, hx2⟩ := r_Lnumber (ds := ds) (k := k) (s := size) (T := .lst (names.map .str) :: .lst (R0.map Loft.d) :: .lst (R1.map Bird.d) :: .lst (R2.map Race.d) :: T) h0 (by omega)
  obtain ⟨y, ey, hy1, hy2⟩ := r_Lnumber (ds := ds) (k := k + 1 + 1) (s := size) (T := .lst (names.map .str) :: .lst (R0.map Loft.d) :: .lst (R1.map Bird.d) :: .lst (R2.map Race.d) :: T) h0 (by omega)
  cases h : R0.any fun p => p.x == x && p.y == y with
  | true =>
    refine ⟨names, k + 1 + 1 + 1 + 1, R2, some (.int x), some (.int y), x14, x15, x16, x17, ?_, by omega, .inl rfl⟩
    show exs b_Lclub_3 [some (.ptr 0), some nl, some nb, some nr, some (.ptr 1), some (.lst [.ptr 2, .ptr 3, .ptr 4]), some (.int size), some d, x8, some (.lst (R0.map Loft.pl)), x10, x11, x12, x13, x14, x15, x16, x17] (stC ds k names R0 R1 R2 T) = _
    unfold b_Lclub_3 stC
    simp only [bind_ok, fl_ok, of_some, seq_nx, seq_ret, pick_t, pick_f, getV_ok, putE_ok, putS_ok, ev_var, ev_non, ev_bl, ev_int, ev_str, ev_glob, ev_bin, ev_cmp, negD_int, ev_neg, notD_bl, ev_not, ev_band, ev_bor, pickE_t, pickE_f, and_1, and_c, or_1, or_c, ev_chain, ev_isN, ev_notN, ev_ite, ev_call, ev_bi, ev_tup, ev_new, new_f, ev_dnewK, ev_dnewT, ev_ix, ev_sl, ev_frz, evs_nil, evs_cons, evN_n, intN_int, evN_s, evO_n, evO_s, evL_disp, ev_join, joinM_s, evL_sorted, evL_sortk, evL_list, ev_dcomp, ex_rem, cmp_eqd, cmp_ned, iterL_t, iterL_l, evL_lrng, evL_stp, evL_rev, revM_l, evL_cat, evL_srtd, ev_cnt, evL_keys, seq_lst, seq_tup, ex_putp, evL_cm, evI_seq, evI_rng1, evI_rng2, evI_enum, exs_nil, exs_cons, exs_frz, ex_asg, setT_n, ex_par, ex_put, ex_aug, augD_ok, ex_drop, ex_app, ex_ifs, ex_for, ex_while, ex_ret, ex_retN, ex_pass, unlock_nx, unlock_ret, lock_seq, lock_cell, lockO_ok, evI_cell, iterO_ok, unlN_ok, unlock_nxs, lock_rng1, evI_rng3, lock_rng3, lock_rng2, lock_enum, lock_text, cmp_lt, cmp_le, cmp_gt, cmp_ge, cmp_eqi, cmp_nei, cmp_eqb, cmp_neb, b_add, b_sub, bi_abs, bi_int, len_lst, len_tup, len_scr, ix_lst, ix_tup, ix_scr, at_0, at_1, at_2, at_3, isN_non, isN_int, isN_tup, isN_lst, isN_str, isN_bl, List.getElem?_cons_succ, List.getElem?_cons_zero, Option.map_some, List.set_cons_succ, List.set_cons_zero, ex, ey, notin_pl, h, Bool.not_true]
  | false =>
    obtain ⟨z, k1, ez, lz⟩ := r_Lword (ds := ds) (k := k + 1 + 1 + 1 + 1) (m := 0) (names := names) (T := .lst (names.map .str) :: .lst (R0.map Loft.d) :: .lst (R1.map Bird.d) :: .lst (R2.map Race.d) :: T) rfl
    -- the draws
    have a1 := drw_lt (ds := ds) (k := k1) (m := 1000) (by decide)
    have a2 := drw_lt (ds := ds) (k := k1 + 1) (m := 1000) (by decide)
    have a3 := drw_lt (ds := ds) (k := k1 + 1 + 1) (m := 2) (by decide)
    have a4 := drw_lt (ds := ds) (k := k1 + 1 + 1 + 1) (m := 2) (by decide)
    obtain ⟨m, em, hm⟩ : ∃ m : Int, (if drw ds (k1 + 1 + 1 + 1) 2 = 0 then D.int 30 else D.int 1000) = .int m ∧ 0 < m ∧ m ≤ 1000 := by
      split
      · exact ⟨30, rfl, by decide, by decide⟩
      · exact ⟨1000, rfl, by decide, by decide⟩
    have a5 := drw_lt (ds := ds) (k := k1 + 1 + 1 + 1 + 1) (m := m) hm.1
    have a6 := drw_lt (ds := ds) (k := k1 + 1 + 1 + 1 + 1 + 1) (m := 2) (by decide)
    obtain ⟨f, ef, hf⟩ : ∃ m : Int, (if drw ds (k1 + 1 + 1 + 1 + 1 + 1) 2 = 0 then D.int 1 else D.int 4) = .int m ∧ 1 ≤ m ∧ m ≤ 4 := by
      split
      · exact ⟨1, rfl, by decide, by decide⟩
      · exact ⟨4, rfl, by decide, by decide⟩
    obtain ⟨st, est, hst⟩ : ∃ m : Int, (if drw ds (k1 + 1 + 1) 2 = 0 then D.int (drw ds k1 1000) else D.int (3 * drw ds (k1 + 1) 1000)) = .int m ∧ 0 ≤ m ∧ m ≤ 2997 := by
      split
      · exact ⟨_, rfl, by omega, by omega⟩
      · exact ⟨_, rfl, by omega, by omega⟩
    have a7 := drw_lt (ds := ds) (k := k1 + 1 + 1 + 1 + 1 + 1 + 1) (m := 1000) (by decide)
    have a8 := drw_lt (ds := ds) (k := k1 + 1 + 1 + 1 + 1 + 1 + 1 + 1) (m := 2) (by decide)
    have a9 := drw_lt (ds := ds) (k := k1 + 1 + 1 + 1 + 1 + 1 + 1 + 1 + 1) (m := 1000) (by decide)
    have a10 := drw_lt (ds := ds) (k := k1 + 1 + 1 + 1 + 1 + 1 + 1 + 1 + 1 + 1) (m := 6) (by decide)
    obtain ⟨du, edu, hdu⟩ : ∃ m : Int, m = drw ds (k1 + 1 + 1 + 1 + 1 + 1 + 1) 1000 + 400 * drw ds (k1 + 1 + 1 + 1 + 1 + 1 + 1 + 1) 2 ∧ 0 ≤ m ∧ m < 1400 := ⟨_, rfl, by omega, by omega⟩
    obtain ⟨da, eda, hda⟩ : ∃ m : Int, (if drw ds (k1 + 1 + 1 + 1 + 1 + 1 + 1 + 1 + 1 + 1) 6 / 5 = 0 then D.int (drw ds (k1 + 1 + 1 + 1 + 1 + 1 + 1 + 1 + 1) 1000) else D.int du) = .int m ∧ 0 ≤ m ∧ m < 1400 := by
      split
      · exact ⟨_, rfl, by omega, by omega⟩
      · exact ⟨_, rfl, by omega, by omega⟩
    have pf : 0 ≤ drw ds (k1 + 1 + 1 + 1 + 1) m * f := Int.mul_nonneg a5.1 (by omega)
    have pf2 : drw ds (k1 + 1 + 1 + 1 + 1) m * f ≤ 999 * 4 := Int.mul_le_mul (by omega) hf.2 (by omega) (by decide)
    refine ⟨names ++ [z], k1 + 1 + 1 + 1 + 1 + 1 + 1 + 1 + 1 + 1 + 1, R2 ++ [⟨z, x, y, st, st + 1 + drw ds (k1 + 1 + 1 + 1 + 1) m * f, du, da⟩], some (.int x), some (.int y), some (.int st), some (.int (st + 1 + drw ds (k1 + 1 + 1 + 1 + 1) m * f)), some (.int du), some (.int da), ?_, by rw [List.length_append]; simp, .inr ⟨_, rfl, ?_⟩⟩
    · show exs b_Lclub_3 [some (.ptr 0), some nl, some nb, some nr, some (.ptr 1), some (.lst [.ptr 2, .ptr 3, .ptr 4]), some (.int size), some d, x8, some (.lst (R0.map Loft.pl)), x10, x11, x12, x13, x14, x15, x16, x17] (stC ds k names R0 R1 R2 T) = _
      unfold b_Lclub_3 stC
      simp only [bind_ok, fl_ok, of_some, seq_nx, seq_ret, pick_t, pick_f, getV_ok, putE_ok, putS_ok, ev_var, ev_non, ev_bl, ev_int, ev_str, ev_glob, ev_bin, ev_cmp, negD_int, ev_neg, notD_bl, ev_not, ev_band, ev_bor, pickE_t, pickE_f, and_1, and_c, or_1, or_c, ev_chain, ev_isN, ev_notN, ev_ite, ev_call, ev_bi, ev_tup, ev_new, new_f, ev_dnewK, ev_dnewT, ev_ix, ev_sl, ev_frz, evs_nil, evs_cons, evN_n, intN_int, evN_s, evO_n, evO_s, evL_disp, ev_join, joinM_s, evL_sorted, evL_sortk, evL_list, ev_dcomp, ex_rem, cmp_eqd, cmp_ned, iterL_t, iterL_l, evL_lrng, evL_stp, evL_rev, revM_l, evL_cat, evL_srtd, ev_cnt, evL_keys, seq_lst, seq_tup, ex_putp, evL_cm, evI_seq, evI_rng1, evI_rng2, evI_enum, exs_nil, exs_cons, exs_frz, ex_asg, setT_n, ex_par, ex_put, ex_aug, augD_ok, ex_drop, ex_app, ex_ifs, ex_for, ex_while, ex_ret, ex_retN, ex_pass, unlock_nx, unlock_ret, lock_seq, lock_cell, lockO_ok, evI_cell, iterO_ok, unlN_ok, unlock_nxs, lock_rng1, evI_rng3, lock_rng3, lock_rng2, lock_enum, lock_text, cmp_lt, cmp_le, cmp_gt, cmp_ge, cmp_eqi, cmp_nei, cmp_eqb, cmp_neb, b_add, b_sub, bi_abs, bi_int, len_lst, len_tup, len_scr, ix_lst, ix_tup, ix_scr, at_0, at_1, at_2, at_3, isN_non, isN_int, isN_tup, isN_lst, isN_str, isN_bl, List.getElem?_cons_succ, List.getElem?_cons_zero, Option.map_some, List.set_cons_succ, List.set_cons_zero, ex, ey, notin_pl, h, Bool.not_false, cell_1, cell_4, if_true, ez, app_1 (show (D.str z).lt 1 = true from rfl) (show (names.map D.str).length < 1000000 by rw [List.length_map]; omega), r_Ldraw (show (0 : Int) < 1000 by decide), r_Ldraw (show (0 : Int) < 2 by decide), r_Ldraw (show (0 : Int) < 6 by decide),
        b_mul (mul_okl (show (3 : Int).natAbs < 18446744073709551616 by decide)), b_mul (mul_okl (show (400 : Int).natAbs < 18446744073709551616 by decide)), ix_lst, at_two a3.1 a3.2, est, at_two a4.1 a4.2, em, r_Ldraw hm.1, at_two a6.1 a6.2, ef, b_mul (mul_okr (show f.natAbs < 18446744073709551616 by omega)), ← edu,
        b_div (show (0 : Int) < 5 by decide) (show divOk 5 = true by decide +kernel), at_two (show 0 ≤ drw ds (k1 + 1 + 1 + 1 + 1 + 1 + 1 + 1 + 1 + 1) 6 / 5 by omega) (show drw ds (k1 + 1 + 1 + 1 + 1 + 1 + 1 + 1 + 1 + 1) 6 / 5 < 2 by omega), eda, at_2, ix_1, at_last,
        app_4 (show (D.tup [.str z, .int x, .int y, .int st, .int (st + 1 + drw ds (k1 + 1 + 1 + 1 + 1) m * f), .int du, .int da]).lt 4 = true from rfl) (show (R2.map Race.d).length < 1000000 by rw [List.length_map]; omega), List.map_append, List.map_cons, List.map_nil, Race.d]
    · refine ⟨lz, by show -9999 ≤ x; omega, by show x ≤ 9999; omega, by show -9999 ≤ y; omega, by show y ≤ 9999; omega, fun l hl e => ?_, hst.1, by show st ≤ 9998; omega, by show st + 1 ≤ st + 1 + _; omega, by show st + 1 + _ ≤ st + 4000; omega, hdu.1, by show du < 1440; omega, hda.1, by show da < 1440; omega⟩
      have := List.any_eq_false.mp h l hl
      simp only [Bool.and_eq_true, beq_iff_eq] at this
      exact this e
end MI.K
set_option exponentiation.threshold 5000
namespace MI.K
open PySem PySem.Spec L2
theorem tup_ptr {n : Nat} {S : Store} {ds : List D} (h : S[n]? = some (.lst ds)) : biD .tuple [.ptr n] S = some (.tup ds) := by
  show (seqOf (.ptr n) S).map D.tup = _
  unfold seqOf
  simp only [h]
  rfl
theorem cut_pl (l : Loft) : slD (Loft.d l) (some 1) none = fun _ => some (Loft.pl l) := rfl
theorem places {ρ : MEnv} {ds : List Int} {k : Nat} {names : List Str} {R0 : List Loft} {R1 : List Bird} {R2 : List Race} {T : Store} (h : ρ[5]? = some (some (.lst [.ptr 2, .ptr 3, .ptr 4]))) (h13 : 13 < ρ.length) (hl : R0.length < 1000000) :
    evL (.comp [("_law_loft", 13)] (.name 13) (.cellE (.ix (.var 5) (.int 0))) .none e_Lclub_1) ρ (stC ds k names R0 R1 R2 T) = .ok (R0.map Loft.pl) (stC ds k names R0 R1 R2 T) := by
  have lk : lockI (.cellE (.ix (.var 5) (.int 0))) ρ (stC ds k names R0 R1 R2 T) = (bxC ds k :: .lst (names.map .str) :: .lkl (R0.map Loft.d) :: .lst (R1.map Bird.d) :: .lst (R2.map Race.d) :: T, some (2, .lst (R0.map Loft.d))) := by
    show (match ((match ρ[5]? with | some o => o | none => none).bind fun x => ixD x (.int 0) (stC ds k names R0 R1 R2 T)) with | some d => lockC d (stC ds k names R0 R1 R2 T) | none => (stC ds k names R0 R1 R2 T, none)) = _
    rw [h]
    rfl
  rw [evL_cm, lk]
  have ei : evI (.cellE (.ix (.var 5) (.int 0))) ρ (bxC ds k :: .lst (names.map .str) :: .lkl (R0.map Loft.d) :: .lst (R1.map Bird.d) :: .lst (R2.map Race.d) :: T) = .ok (R0.map Loft.d) (bxC ds k :: .lst (names.map .str) :: .lkl (R0.map Loft.d) :: .lst (R1.map Bird.d) :: .lst (R2.map Race.d) :: T) := by
    show (ev (.ix (.var 5) (.int 0)) ρ _).bind (fun x S => Rs.of (iterCL x S) S) = _
    simp only [bind_ok, fl_ok, of_some, seq_nx, seq_ret, pick_t, pick_f, getV_ok, putE_ok, putS_ok, ev_var, ev_non, ev_bl, ev_int, ev_str, ev_glob, ev_bin, ev_cmp, negD_int, ev_neg, notD_bl, ev_not, ev_band, ev_bor, pickE_t, pickE_f, and_1, and_c, or_1, or_c, ev_chain, ev_isN, ev_notN, ev_ite, ev_call, ev_bi, ev_tup, ev_new, new_f, ev_dnewK, ev_dnewT, ev_ix, ev_sl, ev_frz, evs_nil, evs_cons, evN_n, intN_int, evN_s, evO_n, evO_s, evL_disp, ev_join, joinM_s, evL_sorted, evL_sortk, evL_list, ev_dcomp, ex_rem, cmp_eqd, cmp_ned, iterL_t, iterL_l, evL_lrng, evL_stp, evL_rev, revM_l, evL_cat, evL_srtd, ev_cnt, evL_keys, seq_lst, seq_tup, ex_putp, evL_cm, evI_seq, evI_rng1, evI_rng2, evI_enum, exs_nil, exs_cons, exs_frz, ex_asg, setT_n, ex_par, ex_put, ex_aug, augD_ok, ex_drop, ex_app, ex_ifs, ex_for, ex_while, ex_ret, ex_retN, ex_pass, unlock_nx, unlock_ret, lock_seq, lock_cell, lockO_ok, evI_cell, iterO_ok, unlN_ok, unlock_nxs, lock_rng1, evI_rng3, lock_rng3, lock_rng2, lock_enum, lock_text, cmp_lt, cmp_le, cmp_gt, cmp_ge, cmp_eqi, cmp_nei, cmp_eqb, cmp_neb, b_add, b_sub, bi_abs, bi_int, len_lst, len_tup, len_scr, ix_lst, ix_tup, ix_scr, at_0, at_1, at_2, at_3, isN_non, isN_int, isN_tup, isN_lst, isN_str, isN_bl, List.getElem?_cons_succ, List.getElem?_cons_zero, Option.map_some, List.set_cons_succ, List.set_cons_zero, h, ix_lst, at_0]
    rfl
  rw [ei, bind_ok, compL_map (g := Loft.d) (h := Loft.pl) R0 [] (by simpa using hl) fun l hl => ?_]
  · rfl
  · rw [turn_n]
    have e : ((wipeE ρ (([("_law_loft", 13)] : List (Str × Nat)).map (·.2))).set 13 (some (Loft.d l)))[13]? = some (some (Loft.d l)) := by
      show ((ρ.set 13 none).set 13 (some (Loft.d l)))[13]? = _
      rw [List.getElem?_set_self (by rw [List.length_set]; exact h13)]
    unfold e_Lclub_1
    simp only [bind_ok, fl_ok, of_some, seq_nx, seq_ret, pick_t, pick_f, getV_ok, putE_ok, putS_ok, ev_var, ev_non, ev_bl, ev_int, ev_str, ev_glob, ev_bin, ev_cmp, negD_int, ev_neg, notD_bl, ev_not, ev_band, ev_bor, pickE_t, pickE_f, and_1, and_c, or_1, or_c, ev_chain, ev_isN, ev_notN, ev_ite, ev_call, ev_bi, ev_tup, ev_new, new_f, ev_dnewK, ev_dnewT, ev_ix, ev_sl, ev_frz, evs_nil, evs_cons, evN_n, intN_int, evN_s, evO_n, evO_s, evL_disp, ev_join, joinM_s, evL_sorted, evL_sortk, evL_list, ev_dcomp, ex_rem, cmp_eqd, cmp_ned, iterL_t, iterL_l, evL_lrng, evL_stp, evL_rev, revM_l, evL_cat, evL_srtd, ev_cnt, evL_keys, seq_lst, seq_tup, ex_putp, evL_cm, evI_seq, evI_rng1, evI_rng2, evI_enum, exs_nil, exs_cons, exs_frz, ex_asg, setT_n, ex_par, ex_put, ex_aug, augD_ok, ex_drop, ex_app, ex_ifs, ex_for, ex_while, ex_ret, ex_retN, ex_pass, unlock_nx, unlock_ret, lock_seq, lock_cell, lockO_ok, evI_cell, iterO_ok, unlN_ok, unlock_nxs, lock_rng1, evI_rng3, lock_rng3, lock_rng2, lock_enum, lock_text, cmp_lt, cmp_le, cmp_gt, cmp_ge, cmp_eqi, cmp_nei, cmp_eqb, cmp_neb, b_add, b_sub, bi_abs, bi_int, len_lst, len_tup, len_scr, ix_lst, ix_tup, ix_scr, at_0, at_1, at_2, at_3, isN_non, isN_int, isN_tup, isN_lst, isN_str, isN_bl, List.getElem?_cons_succ, List.getElem?_cons_zero, Option.map_some, List.set_cons_succ, List.set_cons_zero, e, cut_pl]
    rfl
theorem r_Lclub {ds : List Int} {k : Nat} {nl nb nr : Int} (hl : 1 ≤ nl) (hl2 : nl ≤ 100) (hb : 0 ≤ nb) (hb2 : nb ≤ 100) (hr : 1 ≤ nr) (hr2 : nr ≤ 100) :
    ∃ c k', f_Lclub [.ptr 0, .int nl, .int nb, .int nr] [bxC ds k] = .ok (Club.d c) [bxC ds k'] ∧ ClubOk nl nb nr c := by
  have l0 := drw_lt (ds := ds) (k := k) (m := 3) (by decide)
  obtain ⟨size, eg, hs0, hs1⟩ : ∃ g : Int, atI [D.int 3, .int 50, .int 9999] (drw ds k 3) = some (.int g) ∧ 0 ≤ g ∧ g ≤ 9999 := by
    have : drw ds k 3 = 0 ∨ drw ds k 3 = 1 ∨ drw ds k 3 = 2 := by omega
    rcases this with e | e | e
    · exact ⟨3, by rw [e]; exact at_0, by decide, by decide⟩
    · exact ⟨50, by rw [e]; exact at_1, by decide, by decide⟩
    · exact ⟨9999, by rw [e]; exact at_2, by decide, by decide⟩
  -- lofts
  have l1 := drw_lt (ds := ds) (k := k + 1) (m := nl) (by omega)
  obtain ⟨ρ1, S1, q1, names1, k1, R0, y7, rfl, rfl, n1, n2, lo⟩ := forL_inv (f := turnF (.name 7) b_Lclub_1) (I := fun j ρ S => ∃ names k' R0 x7, ρ = [some (.ptr 0), some (.int nl), some (.int nb), some (.int nr), some (.ptr 1), some (.lst [.ptr 2, .ptr 3, .ptr 4]), some (.int size), x7, none, none, none, none, none, none, none, none, none, none] ∧
      S = stC ds k' names R0 [] [] [] ∧ names.length = j ∧ R0.length = j ∧ ∀ l ∈ R0, LoftOk l) (rangeD 0 (1 + drw ds (k + 1) nl)) 0
    [some (.ptr 0), some (.int nl), some (.int nb), some (.int nr), some (.ptr 1), some (.lst [.ptr 2, .ptr 3, .ptr 4]), some (.int size), none, none, none, none, none, none, none, none, none, none, none] (stC ds (k + 1 + 1) [] [] [] [] []) ⟨[], k + 1 + 1, [], none, rfl, rfl, rfl, rfl, fun _ h => by cases h⟩ (by
    rintro i d ρ S hd ⟨names, k', R0, x7, rfl, rfl, n1, n2, lo⟩
    obtain ⟨rfl, hj⟩ := rangeD_get hd
    obtain ⟨z, k2, x, y, e, ok⟩ := club_1 (ds := ds) (k := k') (names := names) (R0 := R0) (size := size) (nl := .int nl) (nb := .int nb) (nr := .int nr) (d := .int (0 + (i : Int))) (x7 := x7) (x8 := none) (x9 := none) (x10 := none) (x11 := none) (x12 := none) (x13 := none) (x14 := none) (x15 := none) (x16 := none) (x17 := none) (T := []) hs0 hs1 (by omega) (by omega)
    refine ⟨_, _, e, names ++ [z], k2, R0 ++ [⟨z, x, y⟩], _, rfl, rfl, by rw [List.length_append, n1]; rfl, by rw [List.length_append, n2]; rfl, fun l hl => ?_⟩
    rcases List.mem_append.mp hl with h | h
    · exact lo l h
    · have e : l = ⟨z, x, y⟩ := by simpa using h
      rw [e]; exact ok)
  rw [rangeD_len] at n1 n2
  have hR0 : 0 < R0.length := by omega
  -- birds
  have l2 := drw_lt (ds := ds) (k := k1) (m := nb + 1) (by omega)
  obtain ⟨ρ2, S2, q2, k2, R1, z7, z10, rfl, rfl, m1, bi, nd⟩ := forL_inv (f := turnF (.name 7) b_Lclub_2) (I := fun j ρ S => ∃ k' R1 x7 x10, ρ = [some (.ptr 0), some (.int nl), some (.int nb), some (.int nr), some (.ptr 1), some (.lst [.ptr 2, .ptr 3, .ptr 4]), some (.int size), x7, some (.ptr 5), none, x10, none, none, none, none, none, none, none] ∧
      S = stC ds k' names1 R0 R1 [] [.lst ((R1.map Bird.r).map .int)] ∧ R1.length ≤ j ∧ (∀ b ∈ R1, BirdOk R0.length b) ∧ (R1.map Bird.r).Nodup) (rangeD 0 (drw ds k1 (nb + 1))) 0
    [some (.ptr 0), some (.int nl), some (.int nb), some (.int nr), some (.ptr 1), some (.lst [.ptr 2, .ptr 3, .ptr 4]), some (.int size), y7, some (.ptr 5), none, none, none, none, none, none, none, none, none] (stC ds (k1 + 1) names1 R0 [] [] [.lst []]) ⟨k1 + 1, [], y7, none, rfl, rfl, Nat.le_refl _, (fun _ h => by cases h), List.nodup_nil⟩ (by
    rintro i d ρ S hd ⟨k', R1, x7, x10, rfl, rfl, m1, bi, nd⟩
    obtain ⟨rfl, hj⟩ := rangeD_get hd
    obtain ⟨k2, x10', R1', e, hR⟩ := club_2 (ds := ds) (k := k') (names := names1) (R0 := R0) (R1 := R1) (size := size) (nl := .int nl) (nb := .int nb) (nr := .int nr) (d := .int (0 + (i : Int))) (x7 := x7) (x9 := none) (x10 := x10) (x11 := none) (x12 := none) (x13 := none) (x14 := none) (x15 := none) (x16 := none) (x17 := none) hR0 (by omega)
    refine ⟨_, _, e, k2, R1', _, x10', rfl, rfl, ?_⟩
    rcases hR with rfl | ⟨b, rfl, ok, nb⟩
    · exact ⟨by omega, bi, nd⟩
    · refine ⟨by rw [List.length_append]; simp; omega, fun a ha => ?_, ?_⟩
      · rcases List.mem_append.mp ha with h | h
        · exact bi a h
        · have e : a = b := by simpa using h
          rw [e]; exact ok
      · rw [List.map_append, List.nodup_append]
        refine ⟨nd, by simp, fun a ha c hc e => ?_⟩
        have e2 : c = b.r := by simpa using hc
        rw [e, e2] at ha
        exact nb ha)
  rw [rangeD_len] at m1
  -- races
  have l3 := drw_lt (ds := ds) (k := k2) (m := nr) (by omega)
  obtain ⟨ρ3, S3, q3, names3, k3, R2, w7, w11, w12, w14, w15, w16, w17, rfl, rfl, p1, p2, ra⟩ := forL_inv (f := turnF (.name 7) b_Lclub_3) (I := fun j ρ S => ∃ names k' R2 x7 x11 x12 x14 x15 x16 x17, ρ = [some (.ptr 0), some (.int nl), some (.int nb), some (.int nr), some (.ptr 1), some (.lst [.ptr 2, .ptr 3, .ptr 4]), some (.int size), x7, some (.ptr 5), some (.lst (R0.map Loft.pl)), z10, x11, x12, none, x14, x15, x16, x17] ∧
      S = stC ds k' names R0 R1 R2 [.lst ((R1.map Bird.r).map .int)] ∧ names.length ≤ 200 + j ∧ R2.length ≤ j ∧ ∀ r ∈ R2, RaceOk R0 r) (rangeD 0 (1 + drw ds k2 nr)) 0
    [some (.ptr 0), some (.int nl), some (.int nb), some (.int nr), some (.ptr 1), some (.lst [.ptr 2, .ptr 3, .ptr 4]), some (.int size), z7, some (.ptr 5), some (.lst (R0.map Loft.pl)), z10, none, none, none, none, none, none, none] (stC ds (k2 + 1) names1 R0 R1 [] [.lst ((R1.map Bird.r).map .int)]) ⟨names1, k2 + 1, [], z7, none, none, none, none, none, none, rfl, rfl, by omega, Nat.le_refl _, fun _ h => by cases h⟩ (by
    rintro i d ρ S hd ⟨names, k', R2, x7, x11, x12, x14, x15, x16, x17, rfl, rfl, p1, p2, ra⟩
    obtain ⟨rfl, hj⟩ := rangeD_get hd
    obtain ⟨names', k2', R2', x11', x12', x14', x15', x16', x17', e, hn, hR⟩ := club_3 (ds := ds) (k := k') (names := names) (R0 := R0) (R1 := R1) (R2 := R2) (size := size) (nl := .int nl) (nb := .int nb) (nr := .int nr) (d := .int (0 + (i : Int))) (x7 := x7) (x8 := some (.ptr 5)) (x10 := z10) (x11 := x11) (x12 := x12) (x13 := none) (x14 := x14) (x15 := x15) (x16 := x16) (x17 := x17) (T := [.lst ((R1.map Bird.r).map .int)]) hs0 hs1 (by omega) (by omega)
    refine ⟨_, _, e, names', k2', R2', _, x11', x12', x14', x15', x16', x17', rfl, rfl, by omega, ?_⟩
    rcases hR with rfl | ⟨b, rfl, ok⟩
    · exact ⟨by omega, ra⟩
    · refine ⟨by rw [List.length_append]; simp; omega, fun a ha => ?_⟩
      rcases List.mem_append.mp ha with h | h
      · exact ra a h
      · have e : a = b := by simpa using h
        rw [e]; exact ok)
  rw [rangeD_len] at p1 p2
  refine ⟨⟨R0, R1, R2⟩, k3, ?_, ⟨hR0, by show (R0.length : Int) ≤ nl; omega, by show (R1.length : Int) ≤ nb; omega, by show (R2.length : Int) ≤ nr; omega, lo, bi, nd, ra⟩⟩
  refine (fn_ret (S' := stC ds k3 names3 R0 R1 R2 [.lst ((R1.map Bird.r).map .int)]) (d := Club.d ⟨R0, R1, R2⟩) rfl ?_).trans (expo_flat (Club.lt _ _))
  show exs c_Lclub [some (.ptr 0), some (.int nl), some (.int nb), some (.int nr), none, none, none, none, none, none, none, none, none, none, none, none, none, none] [bxC ds k] = _
  unfold c_Lclub
  have pc := places (ρ := [some (.ptr 0), some (.int nl), some (.int nb), some (.int nr), some (.ptr 1), some (.lst [.ptr 2, .ptr 3, .ptr 4]), some (.int size), z7, some (.ptr 5), none, z10, none, none, none, none, none, none, none]) (ds := ds) (k := k2) (names := names1) (R0 := R0) (R1 := R1) (R2 := []) (T := [.lst ((R1.map Bird.r).map .int)]) rfl (show 13 < 18 by decide) (by omega)
  have n0 : newL true [] [bxC ds k] = .ok (.ptr 1) [bxC ds k, .lst []] := rfl
  have n1' : newL true [] [bxC ds k, .lst []] = .ok (.ptr 2) [bxC ds k, .lst [], .lst []] := rfl
  have n2' : newL true [] [bxC ds k, .lst [], .lst []] = .ok (.ptr 3) [bxC ds k, .lst [], .lst [], .lst []] := rfl
  have n3' : newL true [] [bxC ds k, .lst [], .lst [], .lst []] = .ok (.ptr 4) [bxC ds k, .lst [], .lst [], .lst [], .lst []] := rfl
  have n4' : newL true [] (stC ds k1 names1 R0 [] [] []) = .ok (.ptr 5) (stC ds k1 names1 R0 [] [] [.lst []]) := rfl
  have dr1 : f_Ldraw [.ptr 0, .int nl] [bxC ds (k + 1), .lst [], .lst [], .lst [], .lst []] = .ok (.int (drw ds (k + 1) nl)) (stC ds (k + 1 + 1) [] [] [] [] []) := r_Ldraw (by omega)
  have dr2 : f_Ldraw [.ptr 0, .int (nb + 1)] (stC ds k1 names1 R0 [] [] [.lst []]) = .ok (.int (drw ds k1 (nb + 1))) (stC ds (k1 + 1) names1 R0 [] [] [.lst []]) := r_Ldraw (by omega)
  have dr3 : f_Ldraw [.ptr 0, .int nr] (stC ds k2 names1 R0 R1 [] [.lst ((R1.map Bird.r).map .int)]) = .ok (.int (drw ds k2 nr)) (stC ds (k2 + 1) names1 R0 R1 [] [.lst ((R1.map Bird.r).map .int)]) := r_Ldraw (by omega)
  have t0 : biD .tuple [.ptr 2] (stC ds k3 names3 R0 R1 R2 [.lst ((R1.map Bird.r).map .int)]) = _ := tup_ptr rfl
  have t1 : biD .tuple [.ptr 3] (stC ds k3 names3 R0 R1 R2 [.lst ((R1.map Bird.r).map .int)]) = _ := tup_ptr rfl
  have t2 : biD .tuple [.ptr 4] (stC ds k3 names3 R0 R1 R2 [.lst ((R1.map Bird.r).map .int)]) = _ := tup_ptr rfl
  simp only [bind_ok, fl_ok, of_some, seq_nx, seq_ret, pick_t, pick_f, getV_ok, putE_ok, putS_ok, ev_var, ev_non, ev_bl, ev_int, ev_str, ev_glob, ev_bin, ev_cmp, negD_int, ev_neg, notD_bl, ev_not, ev_band, ev_bor, pickE_t, pickE_f, and_1, and_c, or_1, or_c, ev_chain, ev_isN, ev_notN, ev_ite, ev_call, ev_bi, ev_tup, ev_new, new_f, ev_dnewK, ev_dnewT, ev_ix, ev_sl, ev_frz, evs_nil, evs_cons, evN_n, intN_int, evN_s, evO_n, evO_s, evL_disp, ev_join, joinM_s, evL_sorted, evL_sortk, evL_list, ev_dcomp, ex_rem, cmp_eqd, cmp_ned, iterL_t, iterL_l, evL_lrng, evL_stp, evL_rev, revM_l, evL_cat, evL_srtd, ev_cnt, evL_keys, seq_lst, seq_tup, ex_putp, evL_cm, evI_seq, evI_rng1, evI_rng2, evI_enum, exs_nil, exs_cons, exs_frz, ex_asg, setT_n, ex_par, ex_put, ex_aug, augD_ok, ex_drop, ex_app, ex_ifs, ex_for, ex_while, ex_ret, ex_retN, ex_pass, unlock_nx, unlock_ret, lock_seq, lock_cell, lockO_ok, evI_cell, iterO_ok, unlN_ok, unlock_nxs, lock_rng1, evI_rng3, lock_rng3, lock_rng2, lock_enum, lock_text, cmp_lt, cmp_le, cmp_gt, cmp_ge, cmp_eqi, cmp_nei, cmp_eqb, cmp_neb, b_add, b_sub, bi_abs, bi_int, len_lst, len_tup, len_scr, ix_lst, ix_tup, ix_scr, at_0, at_1, at_2, at_3, isN_non, isN_int, isN_tup, isN_lst, isN_str, isN_bl, List.getElem?_cons_succ, List.getElem?_cons_zero, Option.map_some, List.set_cons_succ, List.set_cons_zero, n0, n1', n2', n3', r_Ldraw (show (0 : Int) < 3 by decide), ix_lst, eg, dr1, rngD_ok (small_i (show 0 ≤ 1 + drw ds (k + 1) nl by omega) (by omega)), q1, n4', dr2, rngD_ok (small_i (show 0 ≤ drw ds k1 (nb + 1) by omega) (by omega)), q2, pc, dr3,
    rngD_ok (small_i (show 0 ≤ 1 + drw ds k2 nr by omega) (by omega)), q3, at_0, at_1, at_2, t0, t1, t2, Club.d]
end MI.K
set_option exponentiation.threshold 5000
namespace MI.K
open PySem PySem.Spec L2
theorem at_map {α : Type} {g : α → D} {l : List α} {j : Nat} {a : α} (h : l[j]? = some a) : atI (l.map g) (j : Int) = some (g a) := atI_nat (by rw [List.getElem?_map, h]; rfl)
theorem small_mul {i j : Int} (h : i.natAbs ≤ 1000000) : mulOk i j = true := mul_okl (by omega)
end MI.K
set_option exponentiation.threshold 5000
namespace MI.K
open PySem PySem.Spec L2
/-! ### clocks -/
structure Clock where
  ra : Nat
  lo : Nat
  b : Int
  e : Int
  s : Int
def Clock.d (c : Clock) : D := .tup [.int c.ra, .int c.lo, .int c.b, .int c.e, .int c.s]
structure ClockOk (c : Clock) : Prop where
  b0 : 0 ≤ c.b
  b1 : c.b ≤ 9998
  e0 : c.b < c.e
  e1 : c.e ≤ 9999
  s0 : c.b < c.s
  s1 : c.s ≤ 9999
theorem bi_max {i j : Int} {S : Store} : biD .max2 [.int i, .int j] S = some (.int (if j > i then j else i)) := (rfl)
theorem bi_min {i j : Int} {S : Store} : biD .min2 [.int i, .int j] S = some (.int (if j < i then j else i)) := (rfl)
end MI.K
set_option exponentiation.threshold 5000
namespace MI.K
open PySem PySem.Spec L2
theorem r_Lclock {ds : List Int} {k : Nat} {c : Club} {i j : Nat} {r : Race} {T : Store} (hr : c.races[i]? = some r) (ok : RaceOk c.lofts r) :
    ∃ q k', f_Lclock [.ptr 0, c.d, .int i, .int j] (bxC ds k :: T) = .ok (Clock.d q) (bxC ds k' :: T) ∧ ClockOk q ∧ q.ra = i ∧ q.lo = j := by
  have := ok.s0; have := ok.s1
  have a1 := drw_lt (ds := ds) (k := k) (m := 400) (by decide)
  have a2 := drw_lt (ds := ds) (k := k + 1) (m := 1000) (by decide)
  have a3 := drw_lt (ds := ds) (k := k + 1 + 1) (m := 2) (by decide)
  obtain ⟨f, ef, hf⟩ : ∃ m : Int, (if drw ds (k + 1 + 1) 2 = 0 then D.int 1 else D.int 5) = .int m ∧ 1 ≤ m ∧ m ≤ 5 := by
    split
    · exact ⟨1, rfl, by decide, by decide⟩
    · exact ⟨5, rfl, by decide, by decide⟩
  have a4 := drw_lt (ds := ds) (k := k + 1 + 1 + 1) (m := 21) (by decide)
  have a5 := drw_lt (ds := ds) (k := k + 1 + 1 + 1 + 1) (m := 999) (by decide)
  have a6 := drw_lt (ds := ds) (k := k + 1 + 1 + 1 + 1 + 1) (m := 3) (by decide)
  obtain ⟨dr, edr⟩ : ∃ m : Int, (if drw ds (k + 1 + 1 + 1 + 1 + 1) 3 = 0 then D.int 0 else if drw ds (k + 1 + 1 + 1 + 1 + 1) 3 = 1 then D.int (drw ds (k + 1 + 1 + 1) 21 - 10) else D.int (drw ds (k + 1 + 1 + 1 + 1) 999 - 400)) = .int m := by
    split
    · exact ⟨_, rfl⟩
    · split
      · exact ⟨_, rfl⟩
      · exact ⟨_, rfl⟩
  obtain ⟨b, eb, hb⟩ : ∃ b : Int, b = (if r.st - drw ds k 400 > 0 then r.st - drw ds k 400 else 0) ∧ 0 ≤ b ∧ b ≤ 9998 := ⟨_, rfl, by split <;> omega, by split <;> omega⟩
  have pf : 0 ≤ drw ds (k + 1) 1000 * f := Int.mul_nonneg a2.1 (by omega)
  obtain ⟨e, ee, he⟩ : ∃ e : Int, e = (if b + 1 + drw ds (k + 1) 1000 * f < 9999 then b + 1 + drw ds (k + 1) 1000 * f else 9999) ∧ b < e ∧ e ≤ 9999 := ⟨_, rfl, by split <;> omega, by split <;> omega⟩
  obtain ⟨s, es, hs⟩ : ∃ s : Int, s = (if (if b + 1 + drw ds (k + 1) 1000 * f + dr < 9999 then b + 1 + drw ds (k + 1) 1000 * f + dr else 9999) > b + 1 then (if b + 1 + drw ds (k + 1) 1000 * f + dr < 9999 then b + 1 + drw ds (k + 1) 1000 * f + dr else 9999) else b + 1) ∧ b < s ∧ s ≤ 9999 :=
    ⟨_, rfl, by split <;> omega, by split <;> (try split) <;> omega⟩
  refine ⟨⟨i, j, b, e, s⟩, k + 1 + 1 + 1 + 1 + 1 + 1, fn_same (k := 8) rfl ?_ rfl rfl, ⟨hb.1, hb.2, he.1, he.2, hs.1, hs.2⟩, rfl, rfl⟩
  show exs c_Lclock [some (.ptr 0), some (.tup [.tup (c.lofts.map Loft.d), .tup (c.birds.map Bird.d), .tup (c.races.map Race.d)]), some (.int i), some (.int j), none, none, none, none] (bxC ds k :: T) = _
  unfold c_Lclock
  simp only [bind_ok, fl_ok, of_some, seq_nx, seq_ret, pick_t, pick_f, getV_ok, putE_ok, putS_ok, ev_var, ev_non, ev_bl, ev_int, ev_str, ev_glob, ev_bin, ev_cmp, negD_int, ev_neg, notD_bl, ev_not, ev_band, ev_bor, pickE_t, pickE_f, and_1, and_c, or_1, or_c, ev_chain, ev_isN, ev_notN, ev_ite, ev_call, ev_bi, ev_tup, ev_new, new_f, ev_dnewK, ev_dnewT, ev_ix, ev_sl, ev_frz, evs_nil, evs_cons, evN_n, intN_int, evN_s, evO_n, evO_s, evL_disp, ev_join, joinM_s, evL_sorted, evL_sortk, evL_list, ev_dcomp, ex_rem, cmp_eqd, cmp_ned, iterL_t, iterL_l, evL_lrng, evL_stp, evL_rev, revM_l, evL_cat, evL_srtd, ev_cnt, evL_keys, seq_lst, seq_tup, ex_putp, evL_cm, evI_seq, evI_rng1, evI_rng2, evI_enum, exs_nil, exs_cons, exs_frz, ex_asg, setT_n, ex_par, ex_put, ex_aug, augD_ok, ex_drop, ex_app, ex_ifs, ex_for, ex_while, ex_ret, ex_retN, ex_pass, unlock_nx, unlock_ret, lock_seq, lock_cell, lockO_ok, evI_cell, iterO_ok, unlN_ok, unlock_nxs, lock_rng1, evI_rng3, lock_rng3, lock_rng2, lock_enum, lock_text, cmp_lt, cmp_le, cmp_gt, cmp_ge, cmp_eqi, cmp_nei, cmp_eqb, cmp_neb, b_add, b_sub, bi_abs, bi_int, len_lst, len_tup, len_scr, ix_lst, ix_tup, ix_scr, at_0, at_1, at_2, at_3, isN_non, isN_int, isN_tup, isN_lst, isN_str, isN_bl, List.getElem?_cons_succ, List.getElem?_cons_zero, Option.map_some, List.set_cons_succ, List.set_cons_zero, at_map hr, Race.d, r_Ldraw (show (0 : Int) < 400 by decide), r_Ldraw (show (0 : Int) < 1000 by decide), r_Ldraw (show (0 : Int) < 2 by decide), r_Ldraw (show (0 : Int) < 21 by decide), r_Ldraw (show (0 : Int) < 999 by decide), r_Ldraw (show (0 : Int) < 3 by decide),
    bi_max, bi_min, ← eb, ix_lst, at_two a3.1 a3.2, ef, at_three a6.1 a6.2, edr, b_mul (mul_okr (show f.natAbs < 18446744073709551616 by omega)), ← ee, ← es, Clock.d]
/-! ### true times -/
end MI.K
set_option exponentiation.threshold 5000
namespace MI.K
open PySem PySem.Spec L2
/-! ### slips of all kinds, checked -/
theorem fn_nx {a k : Nat} {b : CSs} {ds : List D} {ρ' : MEnv} {S S' : Store} (hl : ds.length = a) (h : exs b (ds.map some ++ List.replicate (k - a) none) S = .nx ρ' S') : fnOf a k b ds S = expo S.length .non S' := by
  unfold fnOf
  rw [if_pos hl, h]
theorem fn_exc {a k : Nat} {b : CSs} {ds : List D} {ρ' : MEnv} {S : Store} {c : Str} {fs : List (Str × D)} (hl : ds.length = a) (h : exs b (ds.map some ++ List.replicate (k - a) none) S = .ex c fs ρ' S) (hf : fs.all (fun f => f.2.lt S.length) = true) : fnOf a k b ds S = .ex c fs S := by
  unfold fnOf
  rw [if_pos hl, h]
  show (if _ then _ else _) = _
  rw [if_pos hf, List.take_length]
inductive Vl where
  | vi (n : Int)
  | vb (v : Bool)
  | vs
  | vt
  | vn
def Vl.d : Vl → D
  | .vi n => .int n
  | .vb v => .bl v
  | .vs => .str "1"
  | .vt => .tup [.int 1]
  | .vn => .non
theorem Vl.lt (v : Vl) (n : Nat) : v.d.lt n = true := by cases v <;> rfl
def isNum (v : Vl) (a z : Int) : Bool := match v with
  | .vi n => decide (a ≤ n) && decide (n ≤ z)
  | _ => false
def strD : Option Str → D
  | none => .non
  | some w => .str w
section
variable {S : Store}
theorem isi_d {v : Vl} : biD .isInt [v.d] S = some (.bl (match v with | .vi _ => true | .vb _ => true | _ => false)) := by cases v <;> rfl
theorem isb_d {v : Vl} : biD .isBool [v.d] S = some (.bl (match v with | .vb _ => true | _ => false)) := by cases v <;> rfl
theorem r_is_within {v : Vl} {a z : Int} : f_is_within [v.d, .int a, .int z] S = .ok (.bl (isNum v a z)) S := by
  refine fn_same (k := 3) (S' := S) rfl ?_ rfl rfl
  show exs c_is_within [some v.d, some (.int a), some (.int z)] S = _
  unfold c_is_within isNum
  have e1 := fun S => isi_d (v := v) (S := S)
  have e2 := fun S => isb_d (v := v) (S := S)
  cases v with
  | vi n =>
    have f1 : ∀ S, biD .isInt [.int n] S = some (.bl true) := e1
    have f2 : ∀ S, biD .isBool [.int n] S = some (.bl false) := e2
    by_cases h1 : a ≤ n
    · by_cases h2 : n ≤ z
      · simp only [bind_ok, fl_ok, of_some, seq_nx, seq_ret, pick_t, pick_f, getV_ok, putE_ok, putS_ok, ev_var, ev_non, ev_bl, ev_int, ev_str, ev_glob, ev_bin, ev_cmp, negD_int, ev_neg, notD_bl, ev_not, ev_band, ev_bor, pickE_t, pickE_f, and_1, and_c, or_1, or_c, ev_chain, ev_isN, ev_notN, ev_ite, ev_call, ev_bi, ev_tup, ev_new, new_f, ev_dnewK, ev_dnewT, ev_ix, ev_sl, ev_frz, evs_nil, evs_cons, evN_n, intN_int, evN_s, evO_n, evO_s, evL_disp, ev_join, joinM_s, evL_sorted, evL_sortk, evL_list, ev_dcomp, ex_rem, cmp_eqd, cmp_ned, iterL_t, iterL_l, evL_lrng, evL_stp, evL_rev, revM_l, evL_cat, evL_srtd, ev_cnt, evL_keys, seq_lst, seq_tup, ex_putp, evL_cm, evI_seq, evI_rng1, evI_rng2, evI_enum, exs_nil, exs_cons, exs_frz, ex_asg, setT_n, ex_par, ex_put, ex_aug, augD_ok, ex_drop, ex_app, ex_ifs, ex_for, ex_while, ex_ret, ex_retN, ex_pass, unlock_nx, unlock_ret, lock_seq, lock_cell, lockO_ok, evI_cell, iterO_ok, unlN_ok, unlock_nxs, lock_rng1, evI_rng3, lock_rng3, lock_rng2, lock_enum, lock_text, cmp_lt, cmp_le, cmp_gt, cmp_ge, cmp_eqi, cmp_nei, cmp_eqb, cmp_neb, b_add, b_sub, bi_abs, bi_int, len_lst, len_tup, len_scr, ix_lst, ix_tup, ix_scr, at_0, at_1, at_2, at_3, isN_non, isN_int, isN_tup, isN_lst, isN_str, isN_bl, List.getElem?_cons_succ, List.getElem?_cons_zero, Option.map_some, List.set_cons_succ, List.set_cons_zero, Vl.d, f1, f2, Bool.not_false, decide_eq_true h1, decide_eq_true h2, Bool.true_and]
      · simp only [bind_ok, fl_ok, of_some, seq_nx, seq_ret, pick_t, pick_f, getV_ok, putE_ok, putS_ok, ev_var, ev_non, ev_bl, ev_int, ev_str, ev_glob, ev_bin, ev_cmp, negD_int, ev_neg, notD_bl, ev_not, ev_band, ev_bor, pickE_t, pickE_f, and_1, and_c, or_1, or_c, ev_chain, ev_isN, ev_notN, ev_ite, ev_call, ev_bi, ev_tup, ev_new, new_f, ev_dnewK, ev_dnewT, ev_ix, ev_sl, ev_frz, evs_nil, evs_cons, evN_n, intN_int, evN_s, evO_n, evO_s, evL_disp, ev_join, joinM_s, evL_sorted, evL_sortk, evL_list, ev_dcomp, ex_rem, cmp_eqd, cmp_ned, iterL_t, iterL_l, evL_lrng, evL_stp, evL_rev, revM_l, evL_cat, evL_srtd, ev_cnt, evL_keys, seq_lst, seq_tup, ex_putp, evL_cm, evI_seq, evI_rng1, evI_rng2, evI_enum, exs_nil, exs_cons, exs_frz, ex_asg, setT_n, ex_par, ex_put, ex_aug, augD_ok, ex_drop, ex_app, ex_ifs, ex_for, ex_while, ex_ret, ex_retN, ex_pass, unlock_nx, unlock_ret, lock_seq, lock_cell, lockO_ok, evI_cell, iterO_ok, unlN_ok, unlock_nxs, lock_rng1, evI_rng3, lock_rng3, lock_rng2, lock_enum, lock_text, cmp_lt, cmp_le, cmp_gt, cmp_ge, cmp_eqi, cmp_nei, cmp_eqb, cmp_neb, b_add, b_sub, bi_abs, bi_int, len_lst, len_tup, len_scr, ix_lst, ix_tup, ix_scr, at_0, at_1, at_2, at_3, isN_non, isN_int, isN_tup, isN_lst, isN_str, isN_bl, List.getElem?_cons_succ, List.getElem?_cons_zero, Option.map_some, List.set_cons_succ, List.set_cons_zero, Vl.d, f1, f2, Bool.not_false, decide_eq_true h1, decide_eq_false h2, Bool.true_and]
    · simp only [bind_ok, fl_ok, of_some, seq_nx, seq_ret, pick_t, pick_f, getV_ok, putE_ok, putS_ok, ev_var, ev_non, ev_bl, ev_int, ev_str, ev_glob, ev_bin, ev_cmp, negD_int, ev_neg, notD_bl, ev_not, ev_band, ev_bor, pickE_t, pickE_f, and_1, and_c, or_1, or_c, ev_chain, ev_isN, ev_notN, ev_ite, ev_call, ev_bi, ev_tup, ev_new, new_f, ev_dnewK, ev_dnewT, ev_ix, ev_sl, ev_frz, evs_nil, evs_cons, evN_n, intN_int, evN_s, evO_n, evO_s, evL_disp, ev_join, joinM_s, evL_sorted, evL_sortk, evL_list, ev_dcomp, ex_rem, cmp_eqd, cmp_ned, iterL_t, iterL_l, evL_lrng, evL_stp, evL_rev, revM_l, evL_cat, evL_srtd, ev_cnt, evL_keys, seq_lst, seq_tup, ex_putp, evL_cm, evI_seq, evI_rng1, evI_rng2, evI_enum, exs_nil, exs_cons, exs_frz, ex_asg, setT_n, ex_par, ex_put, ex_aug, augD_ok, ex_drop, ex_app, ex_ifs, ex_for, ex_while, ex_ret, ex_retN, ex_pass, unlock_nx, unlock_ret, lock_seq, lock_cell, lockO_ok, evI_cell, iterO_ok, unlN_ok, unlock_nxs, lock_rng1, evI_rng3, lock_rng3, lock_rng2, lock_enum, lock_text, cmp_lt, cmp_le, cmp_gt, cmp_ge, cmp_eqi, cmp_nei, cmp_eqb, cmp_neb, b_add, b_sub, bi_abs, bi_int, len_lst, len_tup, len_scr, ix_lst, ix_tup, ix_scr, at_0, at_1, at_2, at_3, isN_non, isN_int, isN_tup, isN_lst, isN_str, isN_bl, List.getElem?_cons_succ, List.getElem?_cons_zero, Option.map_some, List.set_cons_succ, List.set_cons_zero, Vl.d, f1, f2, Bool.not_false, decide_eq_false h1, Bool.false_and]
  | vb n =>
    have f1 : ∀ S, biD .isInt [.bl n] S = some (.bl true) := e1
    have f2 : ∀ S, biD .isBool [.bl n] S = some (.bl true) := e2
    simp only [bind_ok, fl_ok, of_some, seq_nx, seq_ret, pick_t, pick_f, getV_ok, putE_ok, putS_ok, ev_var, ev_non, ev_bl, ev_int, ev_str, ev_glob, ev_bin, ev_cmp, negD_int, ev_neg, notD_bl, ev_not, ev_band, ev_bor, pickE_t, pickE_f, and_1, and_c, or_1, or_c, ev_chain, ev_isN, ev_notN, ev_ite, ev_call, ev_bi, ev_tup, ev_new, new_f, ev_dnewK, ev_dnewT, ev_ix, ev_sl, ev_frz, evs_nil, evs_cons, evN_n, intN_int, evN_s, evO_n, evO_s, evL_disp, ev_join, joinM_s, evL_sorted, evL_sortk, evL_list, ev_dcomp, ex_rem, cmp_eqd, cmp_ned, iterL_t, iterL_l, evL_lrng, evL_stp, evL_rev, revM_l, evL_cat, evL_srtd, ev_cnt, evL_keys, seq_lst, seq_tup, ex_putp, evL_cm, evI_seq, evI_rng1, evI_rng2, evI_enum, exs_nil, exs_cons, exs_frz, ex_asg, setT_n, ex_par, ex_put, ex_aug, augD_ok, ex_drop, ex_app, ex_ifs, ex_for, ex_while, ex_ret, ex_retN, ex_pass, unlock_nx, unlock_ret, lock_seq, lock_cell, lockO_ok, evI_cell, iterO_ok, unlN_ok, unlock_nxs, lock_rng1, evI_rng3, lock_rng3, lock_rng2, lock_enum, lock_text, cmp_lt, cmp_le, cmp_gt, cmp_ge, cmp_eqi, cmp_nei, cmp_eqb, cmp_neb, b_add, b_sub, bi_abs, bi_int, len_lst, len_tup, len_scr, ix_lst, ix_tup, ix_scr, at_0, at_1, at_2, at_3, isN_non, isN_int, isN_tup, isN_lst, isN_str, isN_bl, List.getElem?_cons_succ, List.getElem?_cons_zero, Option.map_some, List.set_cons_succ, List.set_cons_zero, Vl.d, f1, f2, Bool.not_true]
  | vs =>
    have f1 : ∀ S, biD .isInt [.str "1"] S = some (.bl false) := e1
    simp only [bind_ok, fl_ok, of_some, seq_nx, seq_ret, pick_t, pick_f, getV_ok, putE_ok, putS_ok, ev_var, ev_non, ev_bl, ev_int, ev_str, ev_glob, ev_bin, ev_cmp, negD_int, ev_neg, notD_bl, ev_not, ev_band, ev_bor, pickE_t, pickE_f, and_1, and_c, or_1, or_c, ev_chain, ev_isN, ev_notN, ev_ite, ev_call, ev_bi, ev_tup, ev_new, new_f, ev_dnewK, ev_dnewT, ev_ix, ev_sl, ev_frz, evs_nil, evs_cons, evN_n, intN_int, evN_s, evO_n, evO_s, evL_disp, ev_join, joinM_s, evL_sorted, evL_sortk, evL_list, ev_dcomp, ex_rem, cmp_eqd, cmp_ned, iterL_t, iterL_l, evL_lrng, evL_stp, evL_rev, revM_l, evL_cat, evL_srtd, ev_cnt, evL_keys, seq_lst, seq_tup, ex_putp, evL_cm, evI_seq, evI_rng1, evI_rng2, evI_enum, exs_nil, exs_cons, exs_frz, ex_asg, setT_n, ex_par, ex_put, ex_aug, augD_ok, ex_drop, ex_app, ex_ifs, ex_for, ex_while, ex_ret, ex_retN, ex_pass, unlock_nx, unlock_ret, lock_seq, lock_cell, lockO_ok, evI_cell, iterO_ok, unlN_ok, unlock_nxs, lock_rng1, evI_rng3, lock_rng3, lock_rng2, lock_enum, lock_text, cmp_lt, cmp_le, cmp_gt, cmp_ge, cmp_eqi, cmp_nei, cmp_eqb, cmp_neb, b_add, b_sub, bi_abs, bi_int, len_lst, len_tup, len_scr, ix_lst, ix_tup, ix_scr, at_0, at_1, at_2, at_3, isN_non, isN_int, isN_tup, isN_lst, isN_str, isN_bl, List.getElem?_cons_succ, List.getElem?_cons_zero, Option.map_some, List.set_cons_succ, List.set_cons_zero, Vl.d, f1]
  | vt =>
    have f1 : ∀ S, biD .isInt [.tup [.int 1]] S = some (.bl false) := e1
    simp only [bind_ok, fl_ok, of_some, seq_nx, seq_ret, pick_t, pick_f, getV_ok, putE_ok, putS_ok, ev_var, ev_non, ev_bl, ev_int, ev_str, ev_glob, ev_bin, ev_cmp, negD_int, ev_neg, notD_bl, ev_not, ev_band, ev_bor, pickE_t, pickE_f, and_1, and_c, or_1, or_c, ev_chain, ev_isN, ev_notN, ev_ite, ev_call, ev_bi, ev_tup, ev_new, new_f, ev_dnewK, ev_dnewT, ev_ix, ev_sl, ev_frz, evs_nil, evs_cons, evN_n, intN_int, evN_s, evO_n, evO_s, evL_disp, ev_join, joinM_s, evL_sorted, evL_sortk, evL_list, ev_dcomp, ex_rem, cmp_eqd, cmp_ned, iterL_t, iterL_l, evL_lrng, evL_stp, evL_rev, revM_l, evL_cat, evL_srtd, ev_cnt, evL_keys, seq_lst, seq_tup, ex_putp, evL_cm, evI_seq, evI_rng1, evI_rng2, evI_enum, exs_nil, exs_cons, exs_frz, ex_asg, setT_n, ex_par, ex_put, ex_aug, augD_ok, ex_drop, ex_app, ex_ifs, ex_for, ex_while, ex_ret, ex_retN, ex_pass, unlock_nx, unlock_ret, lock_seq, lock_cell, lockO_ok, evI_cell, iterO_ok, unlN_ok, unlock_nxs, lock_rng1, evI_rng3, lock_rng3, lock_rng2, lock_enum, lock_text, cmp_lt, cmp_le, cmp_gt, cmp_ge, cmp_eqi, cmp_nei, cmp_eqb, cmp_neb, b_add, b_sub, bi_abs, bi_int, len_lst, len_tup, len_scr, ix_lst, ix_tup, ix_scr, at_0, at_1, at_2, at_3, isN_non, isN_int, isN_tup, isN_lst, isN_str, isN_bl, List.getElem?_cons_succ, List.getElem?_cons_zero, Option.map_some, List.set_cons_succ, List.set_cons_zero, Vl.d, f1]
  | vn =>
    have f1 : ∀ S, biD .isInt [.non] S = some (.bl false) := e1
    simp only [bind_ok, fl_ok, of_some, seq_nx, seq_ret, pick_t, pick_f, getV_ok, putE_ok, putS_ok, ev_var, ev_non, ev_bl, ev_int, ev_str, ev_glob, ev_bin, ev_cmp, negD_int, ev_neg, notD_bl, ev_not, ev_band, ev_bor, pickE_t, pickE_f, and_1, and_c, or_1, or_c, ev_chain, ev_isN, ev_notN, ev_ite, ev_call, ev_bi, ev_tup, ev_new, new_f, ev_dnewK, ev_dnewT, ev_ix, ev_sl, ev_frz, evs_nil, evs_cons, evN_n, intN_int, evN_s, evO_n, evO_s, evL_disp, ev_join, joinM_s, evL_sorted, evL_sortk, evL_list, ev_dcomp, ex_rem, cmp_eqd, cmp_ned, iterL_t, iterL_l, evL_lrng, evL_stp, evL_rev, revM_l, evL_cat, evL_srtd, ev_cnt, evL_keys, seq_lst, seq_tup, ex_putp, evL_cm, evI_seq, evI_rng1, evI_rng2, evI_enum, exs_nil, exs_cons, exs_frz, ex_asg, setT_n, ex_par, ex_put, ex_aug, augD_ok, ex_drop, ex_app, ex_ifs, ex_for, ex_while, ex_ret, ex_retN, ex_pass, unlock_nx, unlock_ret, lock_seq, lock_cell, lockO_ok, evI_cell, iterO_ok, unlN_ok, unlock_nxs, lock_rng1, evI_rng3, lock_rng3, lock_rng2, lock_enum, lock_text, cmp_lt, cmp_le, cmp_gt, cmp_ge, cmp_eqi, cmp_nei, cmp_eqb, cmp_neb, b_add, b_sub, bi_abs, bi_int, len_lst, len_tup, len_scr, ix_lst, ix_tup, ix_scr, at_0, at_1, at_2, at_3, isN_non, isN_int, isN_tup, isN_lst, isN_str, isN_bl, List.getElem?_cons_succ, List.getElem?_cons_zero, Option.map_some, List.set_cons_succ, List.set_cons_zero, Vl.d, f1]
theorem r_Lis_number {v : Vl} {a z : Int} : f_Lis_number [v.d, .int a, .int z] S = .ok (.bl (isNum v a z)) S := by
  refine fn_same (k := 3) (S' := S) rfl ?_ rfl rfl
  show exs c_Lis_number [some v.d, some (.int a), some (.int z)] S = _
  unfold c_Lis_number isNum
  have e1 := fun S => isi_d (v := v) (S := S)
  have e2 := fun S => isb_d (v := v) (S := S)
  cases v with
  | vi n =>
    have f1 : ∀ S, biD .isInt [.int n] S = some (.bl true) := e1
    have f2 : ∀ S, biD .isBool [.int n] S = some (.bl false) := e2
    by_cases h1 : a ≤ n
    · by_cases h2 : n ≤ z
      · simp only [bind_ok, fl_ok, of_some, seq_nx, seq_ret, pick_t, pick_f, getV_ok, putE_ok, putS_ok, ev_var, ev_non, ev_bl, ev_int, ev_str, ev_glob, ev_bin, ev_cmp, negD_int, ev_neg, notD_bl, ev_not, ev_band, ev_bor, pickE_t, pickE_f, and_1, and_c, or_1, or_c, ev_chain, ev_isN, ev_notN, ev_ite, ev_call, ev_bi, ev_tup, ev_new, new_f, ev_dnewK, ev_dnewT, ev_ix, ev_sl, ev_frz, evs_nil, evs_cons, evN_n, intN_int, evN_s, evO_n, evO_s, evL_disp, ev_join, joinM_s, evL_sorted, evL_sortk, evL_list, ev_dcomp, ex_rem, cmp_eqd, cmp_ned, iterL_t, iterL_l, evL_lrng, evL_stp, evL_rev, revM_l, evL_cat, evL_srtd, ev_cnt, evL_keys, seq_lst, seq_tup, ex_putp, evL_cm, evI_seq, evI_rng1, evI_rng2, evI_enum, exs_nil, exs_cons, exs_frz, ex_asg, setT_n, ex_par, ex_put, ex_aug, augD_ok, ex_drop, ex_app, ex_ifs, ex_for, ex_while, ex_ret, ex_retN, ex_pass, unlock_nx, unlock_ret, lock_seq, lock_cell, lockO_ok, evI_cell, iterO_ok, unlN_ok, unlock_nxs, lock_rng1, evI_rng3, lock_rng3, lock_rng2, lock_enum, lock_text, cmp_lt, cmp_le, cmp_gt, cmp_ge, cmp_eqi, cmp_nei, cmp_eqb, cmp_neb, b_add, b_sub, bi_abs, bi_int, len_lst, len_tup, len_scr, ix_lst, ix_tup, ix_scr, at_0, at_1, at_2, at_3, isN_non, isN_int, isN_tup, isN_lst, isN_str, isN_bl, List.getElem?_cons_succ, List.getElem?_cons_zero, Option.map_some, List.set_cons_succ, List.set_cons_zero, Vl.d, f1, f2, Bool.not_false, decide_eq_true h1, decide_eq_true h2, Bool.true_and]
      · simp only [bind_ok, fl_ok, of_some, seq_nx, seq_ret, pick_t, pick_f, getV_ok, putE_ok, putS_ok, ev_var, ev_non, ev_bl, ev_int, ev_str, ev_glob, ev_bin, ev_cmp, negD_int, ev_neg, notD_bl, ev_not, ev_band, ev_bor, pickE_t, pickE_f, and_1, and_c, or_1, or_c, ev_chain, ev_isN, ev_notN, ev_ite, ev_call, ev_bi, ev_tup, ev_new, new_f, ev_dnewK, ev_dnewT, ev_ix, ev_sl, ev_frz, evs_nil, evs_cons, evN_n, intN_int, evN_s, evO_n, evO_s, evL_disp, ev_join, joinM_s, evL_sorted, evL_sortk, evL_list, ev_dcomp, ex_rem, cmp_eqd, cmp_ned, iterL_t, iterL_l, evL_lrng, evL_stp, evL_rev, revM_l, evL_cat, evL_srtd, ev_cnt, evL_keys, seq_lst, seq_tup, ex_putp, evL_cm, evI_seq, evI_rng1, evI_rng2, evI_enum, exs_nil, exs_cons, exs_frz, ex_asg, setT_n, ex_par, ex_put, ex_aug, augD_ok, ex_drop, ex_app, ex_ifs, ex_for, ex_while, ex_ret, ex_retN, ex_pass, unlock_nx, unlock_ret, lock_seq, lock_cell, lockO_ok, evI_cell, iterO_ok, unlN_ok, unlock_nxs, lock_rng1, evI_rng3, lock_rng3, lock_rng2, lock_enum, lock_text, cmp_lt, cmp_le, cmp_gt, cmp_ge, cmp_eqi, cmp_nei, cmp_eqb, cmp_neb, b_add, b_sub, bi_abs, bi_int, len_lst, len_tup, len_scr, ix_lst, ix_tup, ix_scr, at_0, at_1, at_2, at_3, isN_non, isN_int, isN_tup, isN_lst, isN_str, isN_bl, List.getElem?_cons_succ, List.getElem?_cons_zero, Option.map_some, List.set_cons_succ, List.set_cons_zero, Vl.d, f1, f2, Bool.not_false, decide_eq_true h1, decide_eq_false h2, Bool.true_and]
    · simp only [bind_ok, fl_ok, of_some, seq_nx, seq_ret, pick_t, pick_f, getV_ok, putE_ok, putS_ok, ev_var, ev_non, ev_bl, ev_int, ev_str, ev_glob, ev_bin, ev_cmp, negD_int, ev_neg, notD_bl, ev_not, ev_band, ev_bor, pickE_t, pickE_f, and_1, and_c, or_1, or_c, ev_chain, ev_isN, ev_notN, ev_ite, ev_call, ev_bi, ev_tup, ev_new, new_f, ev_dnewK, ev_dnewT, ev_ix, ev_sl, ev_frz, evs_nil, evs_cons, evN_n, intN_int, evN_s, evO_n, evO_s, evL_disp, ev_join, joinM_s, evL_sorted, evL_sortk, evL_list, ev_dcomp, ex_rem, cmp_eqd, cmp_ned, iterL_t, iterL_l, evL_lrng, evL_stp, evL_rev, revM_l, evL_cat, evL_srtd, ev_cnt, evL_keys, seq_lst, seq_tup, ex_putp, evL_cm, evI_seq, evI_rng1, evI_rng2, evI_enum, exs_nil, exs_cons, exs_frz, ex_asg, setT_n, ex_par, ex_put, ex_aug, augD_ok, ex_drop, ex_app, ex_ifs, ex_for, ex_while, ex_ret, ex_retN, ex_pass, unlock_nx, unlock_ret, lock_seq, lock_cell, lockO_ok, evI_cell, iterO_ok, unlN_ok, unlock_nxs, lock_rng1, evI_rng3, lock_rng3, lock_rng2, lock_enum, lock_text, cmp_lt, cmp_le, cmp_gt, cmp_ge, cmp_eqi, cmp_nei, cmp_eqb, cmp_neb, b_add, b_sub, bi_abs, bi_int, len_lst, len_tup, len_scr, ix_lst, ix_tup, ix_scr, at_0, at_1, at_2, at_3, isN_non, isN_int, isN_tup, isN_lst, isN_str, isN_bl, List.getElem?_cons_succ, List.getElem?_cons_zero, Option.map_some, List.set_cons_succ, List.set_cons_zero, Vl.d, f1, f2, Bool.not_false, decide_eq_false h1, Bool.false_and]
  | vb n =>
    have f1 : ∀ S, biD .isInt [.bl n] S = some (.bl true) := e1
    have f2 : ∀ S, biD .isBool [.bl n] S = some (.bl true) := e2
    simp only [bind_ok, fl_ok, of_some, seq_nx, seq_ret, pick_t, pick_f, getV_ok, putE_ok, putS_ok, ev_var, ev_non, ev_bl, ev_int, ev_str, ev_glob, ev_bin, ev_cmp, negD_int, ev_neg, notD_bl, ev_not, ev_band, ev_bor, pickE_t, pickE_f, and_1, and_c, or_1, or_c, ev_chain, ev_isN, ev_notN, ev_ite, ev_call, ev_bi, ev_tup, ev_new, new_f, ev_dnewK, ev_dnewT, ev_ix, ev_sl, ev_frz, evs_nil, evs_cons, evN_n, intN_int, evN_s, evO_n, evO_s, evL_disp, ev_join, joinM_s, evL_sorted, evL_sortk, evL_list, ev_dcomp, ex_rem, cmp_eqd, cmp_ned, iterL_t, iterL_l, evL_lrng, evL_stp, evL_rev, revM_l, evL_cat, evL_srtd, ev_cnt, evL_keys, seq_lst, seq_tup, ex_putp, evL_cm, evI_seq, evI_rng1, evI_rng2, evI_enum, exs_nil, exs_cons, exs_frz, ex_asg, setT_n, ex_par, ex_put, ex_aug, augD_ok, ex_drop, ex_app, ex_ifs, ex_for, ex_while, ex_ret, ex_retN, ex_pass, unlock_nx, unlock_ret, lock_seq, lock_cell, lockO_ok, evI_cell, iterO_ok, unlN_ok, unlock_nxs, lock_rng1, evI_rng3, lock_rng3, lock_rng2, lock_enum, lock_text, cmp_lt, cmp_le, cmp_gt, cmp_ge, cmp_eqi, cmp_nei, cmp_eqb, cmp_neb, b_add, b_sub, bi_abs, bi_int, len_lst, len_tup, len_scr, ix_lst, ix_tup, ix_scr, at_0, at_1, at_2, at_3, isN_non, isN_int, isN_tup, isN_lst, isN_str, isN_bl, List.getElem?_cons_succ, List.getElem?_cons_zero, Option.map_some, List.set_cons_succ, List.set_cons_zero, Vl.d, f1, f2, Bool.not_true]
  | vs =>
    have f1 : ∀ S, biD .isInt [.str "1"] S = some (.bl false) := e1
    simp only [bind_ok, fl_ok, of_some, seq_nx, seq_ret, pick_t, pick_f, getV_ok, putE_ok, putS_ok, ev_var, ev_non, ev_bl, ev_int, ev_str, ev_glob, ev_bin, ev_cmp, negD_int, ev_neg, notD_bl, ev_not, ev_band, ev_bor, pickE_t, pickE_f, and_1, and_c, or_1, or_c, ev_chain, ev_isN, ev_notN, ev_ite, ev_call, ev_bi, ev_tup, ev_new, new_f, ev_dnewK, ev_dnewT, ev_ix, ev_sl, ev_frz, evs_nil, evs_cons, evN_n, intN_int, evN_s, evO_n, evO_s, evL_disp, ev_join, joinM_s, evL_sorted, evL_sortk, evL_list, ev_dcomp, ex_rem, cmp_eqd, cmp_ned, iterL_t, iterL_l, evL_lrng, evL_stp, evL_rev, revM_l, evL_cat, evL_srtd, ev_cnt, evL_keys, seq_lst, seq_tup, ex_putp, evL_cm, evI_seq, evI_rng1, evI_rng2, evI_enum, exs_nil, exs_cons, exs_frz, ex_asg, setT_n, ex_par, ex_put, ex_aug, augD_ok, ex_drop, ex_app, ex_ifs, ex_for, ex_while, ex_ret, ex_retN, ex_pass, unlock_nx, unlock_ret, lock_seq, lock_cell, lockO_ok, evI_cell, iterO_ok, unlN_ok, unlock_nxs, lock_rng1, evI_rng3, lock_rng3, lock_rng2, lock_enum, lock_text, cmp_lt, cmp_le, cmp_gt, cmp_ge, cmp_eqi, cmp_nei, cmp_eqb, cmp_neb, b_add, b_sub, bi_abs, bi_int, len_lst, len_tup, len_scr, ix_lst, ix_tup, ix_scr, at_0, at_1, at_2, at_3, isN_non, isN_int, isN_tup, isN_lst, isN_str, isN_bl, List.getElem?_cons_succ, List.getElem?_cons_zero, Option.map_some, List.set_cons_succ, List.set_cons_zero, Vl.d, f1]
  | vt =>
    have f1 : ∀ S, biD .isInt [.tup [.int 1]] S = some (.bl false) := e1
    simp only [bind_ok, fl_ok, of_some, seq_nx, seq_ret, pick_t, pick_f, getV_ok, putE_ok, putS_ok, ev_var, ev_non, ev_bl, ev_int, ev_str, ev_glob, ev_bin, ev_cmp, negD_int, ev_neg, notD_bl, ev_not, ev_band, ev_bor, pickE_t, pickE_f, and_1, and_c, or_1, or_c, ev_chain, ev_isN, ev_notN, ev_ite, ev_call, ev_bi, ev_tup, ev_new, new_f, ev_dnewK, ev_dnewT, ev_ix, ev_sl, ev_frz, evs_nil, evs_cons, evN_n, intN_int, evN_s, evO_n, evO_s, evL_disp, ev_join, joinM_s, evL_sorted, evL_sortk, evL_list, ev_dcomp, ex_rem, cmp_eqd, cmp_ned, iterL_t, iterL_l, evL_lrng, evL_stp, evL_rev, revM_l, evL_cat, evL_srtd, ev_cnt, evL_keys, seq_lst, seq_tup, ex_putp, evL_cm, evI_seq, evI_rng1, evI_rng2, evI_enum, exs_nil, exs_cons, exs_frz, ex_asg, setT_n, ex_par, ex_put, ex_aug, augD_ok, ex_drop, ex_app, ex_ifs, ex_for, ex_while, ex_ret, ex_retN, ex_pass, unlock_nx, unlock_ret, lock_seq, lock_cell, lockO_ok, evI_cell, iterO_ok, unlN_ok, unlock_nxs, lock_rng1, evI_rng3, lock_rng3, lock_rng2, lock_enum, lock_text, cmp_lt, cmp_le, cmp_gt, cmp_ge, cmp_eqi, cmp_nei, cmp_eqb, cmp_neb, b_add, b_sub, bi_abs, bi_int, len_lst, len_tup, len_scr, ix_lst, ix_tup, ix_scr, at_0, at_1, at_2, at_3, isN_non, isN_int, isN_tup, isN_lst, isN_str, isN_bl, List.getElem?_cons_succ, List.getElem?_cons_zero, Option.map_some, List.set_cons_succ, List.set_cons_zero, Vl.d, f1]
  | vn =>
    have f1 : ∀ S, biD .isInt [.non] S = some (.bl false) := e1
    simp only [bind_ok, fl_ok, of_some, seq_nx, seq_ret, pick_t, pick_f, getV_ok, putE_ok, putS_ok, ev_var, ev_non, ev_bl, ev_int, ev_str, ev_glob, ev_bin, ev_cmp, negD_int, ev_neg, notD_bl, ev_not, ev_band, ev_bor, pickE_t, pickE_f, and_1, and_c, or_1, or_c, ev_chain, ev_isN, ev_notN, ev_ite, ev_call, ev_bi, ev_tup, ev_new, new_f, ev_dnewK, ev_dnewT, ev_ix, ev_sl, ev_frz, evs_nil, evs_cons, evN_n, intN_int, evN_s, evO_n, evO_s, evL_disp, ev_join, joinM_s, evL_sorted, evL_sortk, evL_list, ev_dcomp, ex_rem, cmp_eqd, cmp_ned, iterL_t, iterL_l, evL_lrng, evL_stp, evL_rev, revM_l, evL_cat, evL_srtd, ev_cnt, evL_keys, seq_lst, seq_tup, ex_putp, evL_cm, evI_seq, evI_rng1, evI_rng2, evI_enum, exs_nil, exs_cons, exs_frz, ex_asg, setT_n, ex_par, ex_put, ex_aug, augD_ok, ex_drop, ex_app, ex_ifs, ex_for, ex_while, ex_ret, ex_retN, ex_pass, unlock_nx, unlock_ret, lock_seq, lock_cell, lockO_ok, evI_cell, iterO_ok, unlN_ok, unlock_nxs, lock_rng1, evI_rng3, lock_rng3, lock_rng2, lock_enum, lock_text, cmp_lt, cmp_le, cmp_gt, cmp_ge, cmp_eqi, cmp_nei, cmp_eqb, cmp_neb, b_add, b_sub, bi_abs, bi_int, len_lst, len_tup, len_scr, ix_lst, ix_tup, ix_scr, at_0, at_1, at_2, at_3, isN_non, isN_int, isN_tup, isN_lst, isN_str, isN_bl, List.getElem?_cons_succ, List.getElem?_cons_zero, Option.map_some, List.set_cons_succ, List.set_cons_zero, Vl.d, f1]
theorem ex_rais {c : Str} {fs : List Str} {es : CEs} {ρ : MEnv} : ex (.rais c fs es) ρ S = (evs es ρ S).fl ρ fun ds S => if ds.length = fs.length ∧ ds.all shortD = true then .ex c (fs.zip ds) ρ S else .stuck := rfl
theorem rais_w {ρ : MEnv} {w : Str} (h : w.length ≤ 1000) : ex (.rais "BadClock" ["word"] (.cons (.str w) .nil)) ρ S = .ex "BadClock" [("word", .str w)] ρ S := by
  show (if (1 = 1 ∧ [D.str w].all shortD = true) then Fl.ex "BadClock" [("word", .str w)] ρ S else .stuck) = _
  rw [if_pos ⟨rfl, by show (decide (w.length ≤ 1000) && true) = true; rw [decide_eq_true h]; rfl⟩]
end
def bI : Vl → Int
  | .vi n => n
  | _ => 0
def tellC (c : Club) (x0 x1 x2 x3 x4 : Vl) : Option Str :=
  if isNum x0 0 ((c.races.length : Int) - 1) = true then
    (if isNum x1 0 ((c.lofts.length : Int) - 1) = true then
      (if isNum x2 0 9999 = true then
        (if isNum x3 (bI x2 + 1) 9999 = true then
          (if isNum x4 (bI x2 + 1) 9999 = true then none else some "shown")
        else some "end")
      else some "begin")
    else some "loft")
  else some "race"
def clkV (x0 x1 x2 x3 x4 : Vl) : D := .tup [x0.d, x1.d, x2.d, x3.d, x4.d]
section
variable {S : Store} {c : Club} {x0 x1 x2 x3 x4 : Vl}
theorem core_clock : (tellC c x0 x1 x2 x3 x4 = none ∧ ∃ ρ', exs c_check_clock [some c.d, some (clkV x0 x1 x2 x3 x4), none, none, none, none, none] S = .nx ρ' S) ∨
    (∃ w ρ', tellC c x0 x1 x2 x3 x4 = some w ∧ exs c_check_clock [some c.d, some (clkV x0 x1 x2 x3 x4), none, none, none, none, none] S = .ex "BadClock" [("word", .str w)] ρ' S) := by
  have st : ∀ a, setT (.tup [2, 3, 4, 5, 6]) (clkV x0 x1 x2 x3 x4) [some c.d, some a, none, none, none, none, none] = some [some c.d, some a, some x0.d, some x1.d, some x2.d, some x3.d, some x4.d] := fun _ => rfl
  have c0 : ∀ S, ixD c.d (.int 0) S = some (.tup (c.lofts.map Loft.d)) := fun S => (ix_tup).trans at_0
  have c2 : ∀ S, ixD c.d (.int 2) S = some (.tup (c.races.map Race.d)) := fun S => (ix_tup).trans at_2
  have lenl : ∀ S, biD .len [.tup (c.lofts.map Loft.d)] S = some (.int (c.lofts.length : Int)) := fun S => by rw [len_tup, List.length_map]
  have lenr : ∀ S, biD .len [.tup (c.races.map Race.d)] S = some (.int (c.races.length : Int)) := fun S => by rw [len_tup, List.length_map]
  have g0 : ∀ S, ixD (.con [.int 0, .int 9999]) (.int 0) S = some (.int 0) := fun S => rfl
  have g1 : ∀ S, ixD (.con [.int 0, .int 9999]) (.int 1) S = some (.int 9999) := fun S => rfl
  have w0 := fun S => r_is_within (S := S) (v := x0) (a := 0) (z := (c.races.length : Int) - 1)
  have w1 := fun S => r_is_within (S := S) (v := x1) (a := 0) (z := (c.lofts.length : Int) - 1)
  have w2 := fun S => r_is_within (S := S) (v := x2) (a := 0) (z := 9999)
  have w3 := fun S => r_is_within (S := S) (v := x3) (a := bI x2 + 1) (z := 9999)
  have w4 := fun S => r_is_within (S := S) (v := x4) (a := bI x2 + 1) (z := 9999)
  have rw_ : ∀ (w : Str), w.length ≤ 1000 → ∀ ρ S, ex (.rais "BadClock" ["word"] (.cons (.str w) .nil)) ρ S = .ex "BadClock" [("word", .str w)] ρ S := fun w hw ρ S => rais_w hw
  have p0 := rw_ "race" (by decide)
  have p1 := rw_ "loft" (by decide)
  have p2 := rw_ "begin" (by decide)
  have p3 := rw_ "end" (by decide)
  have p4 := rw_ "shown" (by decide)
  unfold tellC
  by_cases h0 : isNum x0 0 ((c.races.length : Int) - 1) = true
  · rw [if_pos h0]; rw [h0] at w0
    by_cases h1 : isNum x1 0 ((c.lofts.length : Int) - 1) = true
    · rw [if_pos h1]; rw [h1] at w1
      by_cases h2 : isNum x2 0 9999 = true
      · rw [if_pos h2]; rw [h2] at w2
        have ad : ∀ S, binD .add x2.d (.int 1) S = some (.int (bI x2 + 1)) := fun S => by
          cases x2 with
          | vi n => rfl
          | _ => cases h2
        by_cases h3 : isNum x3 (bI x2 + 1) 9999 = true
        · rw [if_pos h3]; rw [h3] at w3
          by_cases h4 : isNum x4 (bI x2 + 1) 9999 = true
          · rw [if_pos h4]; rw [h4] at w4
            refine .inl ⟨rfl, [some c.d, some (clkV x0 x1 x2 x3 x4), some x0.d, some x1.d, some x2.d, some x3.d, some x4.d], ?_⟩
            unfold c_check_clock
            simp only [bind_ok, fl_ok, of_some, seq_nx, seq_ret, pick_t, pick_f, getV_ok, putE_ok, putS_ok, ev_var, ev_non, ev_bl, ev_int, ev_str, ev_glob, ev_bin, ev_cmp, negD_int, ev_neg, notD_bl, ev_not, ev_band, ev_bor, pickE_t, pickE_f, and_1, and_c, or_1, or_c, ev_chain, ev_isN, ev_notN, ev_ite, ev_call, ev_bi, ev_tup, ev_new, new_f, ev_dnewK, ev_dnewT, ev_ix, ev_sl, ev_frz, evs_nil, evs_cons, evN_n, intN_int, evN_s, evO_n, evO_s, evL_disp, ev_join, joinM_s, evL_sorted, evL_sortk, evL_list, ev_dcomp, ex_rem, cmp_eqd, cmp_ned, iterL_t, iterL_l, evL_lrng, evL_stp, evL_rev, revM_l, evL_cat, evL_srtd, ev_cnt, evL_keys, seq_lst, seq_tup, ex_putp, evL_cm, evI_seq, evI_rng1, evI_rng2, evI_enum, exs_nil, exs_cons, exs_frz, ex_asg, setT_n, ex_par, ex_put, ex_aug, augD_ok, ex_drop, ex_app, ex_ifs, ex_for, ex_while, ex_ret, ex_retN, ex_pass, unlock_nx, unlock_ret, lock_seq, lock_cell, lockO_ok, evI_cell, iterO_ok, unlN_ok, unlock_nxs, lock_rng1, evI_rng3, lock_rng3, lock_rng2, lock_enum, lock_text, cmp_lt, cmp_le, cmp_gt, cmp_ge, cmp_eqi, cmp_nei, cmp_eqb, cmp_neb, b_add, b_sub, bi_abs, bi_int, len_lst, len_tup, len_scr, ix_lst, ix_tup, ix_scr, at_0, at_1, at_2, at_3, isN_non, isN_int, isN_tup, isN_lst, isN_str, isN_bl, List.getElem?_cons_succ, List.getElem?_cons_zero, Option.map_some, List.set_cons_succ, List.set_cons_zero, st, c0, c2, lenl, lenr, g0, g1, w0, w1, w2, w3, w4, ad, Bool.not_true]
          · rw [if_neg h4]; rw [show isNum x4 (bI x2 + 1) 9999 = false by simpa using h4] at w4
            refine .inr ⟨"shown", [some c.d, some (clkV x0 x1 x2 x3 x4), some x0.d, some x1.d, some x2.d, some x3.d, some x4.d], rfl, ?_⟩
            unfold c_check_clock
            simp only [bind_ok, fl_ok, of_some, seq_nx, seq_ret, pick_t, pick_f, getV_ok, putE_ok, putS_ok, ev_var, ev_non, ev_bl, ev_int, ev_str, ev_glob, ev_bin, ev_cmp, negD_int, ev_neg, notD_bl, ev_not, ev_band, ev_bor, pickE_t, pickE_f, and_1, and_c, or_1, or_c, ev_chain, ev_isN, ev_notN, ev_ite, ev_call, ev_bi, ev_tup, ev_new, new_f, ev_dnewK, ev_dnewT, ev_ix, ev_sl, ev_frz, evs_nil, evs_cons, evN_n, intN_int, evN_s, evO_n, evO_s, evL_disp, ev_join, joinM_s, evL_sorted, evL_sortk, evL_list, ev_dcomp, ex_rem, cmp_eqd, cmp_ned, iterL_t, iterL_l, evL_lrng, evL_stp, evL_rev, revM_l, evL_cat, evL_srtd, ev_cnt, evL_keys, seq_lst, seq_tup, ex_putp, evL_cm, evI_seq, evI_rng1, evI_rng2, evI_enum, exs_nil, exs_cons, exs_frz, ex_asg, setT_n, ex_par, ex_put, ex_aug, augD_ok, ex_drop, ex_app, ex_ifs, ex_for, ex_while, ex_ret, ex_retN, ex_pass, unlock_nx, unlock_ret, lock_seq, lock_cell, lockO_ok, evI_cell, iterO_ok, unlN_ok, unlock_nxs, lock_rng1, evI_rng3, lock_rng3, lock_rng2, lock_enum, lock_text, cmp_lt, cmp_le, cmp_gt, cmp_ge, cmp_eqi, cmp_nei, cmp_eqb, cmp_neb, b_add, b_sub, bi_abs, bi_int, len_lst, len_tup, len_scr, ix_lst, ix_tup, ix_scr, at_0, at_1, at_2, at_3, isN_non, isN_int, isN_tup, isN_lst, isN_str, isN_bl, List.getElem?_cons_succ, List.getElem?_cons_zero, Option.map_some, List.set_cons_succ, List.set_cons_zero, st, c0, c2, lenl, lenr, g0, g1, w0, w1, w2, w3, w4, ad, Bool.not_true, Bool.not_false, p4]
            rfl
        · rw [if_neg h3]; rw [show isNum x3 (bI x2 + 1) 9999 = false by simpa using h3] at w3
          refine .inr ⟨"end", [some c.d, some (clkV x0 x1 x2 x3 x4), some x0.d, some x1.d, some x2.d, some x3.d, some x4.d], rfl, ?_⟩
          unfold c_check_clock
          simp only [bind_ok, fl_ok, of_some, seq_nx, seq_ret, pick_t, pick_f, getV_ok, putE_ok, putS_ok, ev_var, ev_non, ev_bl, ev_int, ev_str, ev_glob, ev_bin, ev_cmp, negD_int, ev_neg, notD_bl, ev_not, ev_band, ev_bor, pickE_t, pickE_f, and_1, and_c, or_1, or_c, ev_chain, ev_isN, ev_notN, ev_ite, ev_call, ev_bi, ev_tup, ev_new, new_f, ev_dnewK, ev_dnewT, ev_ix, ev_sl, ev_frz, evs_nil, evs_cons, evN_n, intN_int, evN_s, evO_n, evO_s, evL_disp, ev_join, joinM_s, evL_sorted, evL_sortk, evL_list, ev_dcomp, ex_rem, cmp_eqd, cmp_ned, iterL_t, iterL_l, evL_lrng, evL_stp, evL_rev, revM_l, evL_cat, evL_srtd, ev_cnt, evL_keys, seq_lst, seq_tup, ex_putp, evL_cm, evI_seq, evI_rng1, evI_rng2, evI_enum, exs_nil, exs_cons, exs_frz, ex_asg, setT_n, ex_par, ex_put, ex_aug, augD_ok, ex_drop, ex_app, ex_ifs, ex_for, ex_while, ex_ret, ex_retN, ex_pass, unlock_nx, unlock_ret, lock_seq, lock_cell, lockO_ok, evI_cell, iterO_ok, unlN_ok, unlock_nxs, lock_rng1, evI_rng3, lock_rng3, lock_rng2, lock_enum, lock_text, cmp_lt, cmp_le, cmp_gt, cmp_ge, cmp_eqi, cmp_nei, cmp_eqb, cmp_neb, b_add, b_sub, bi_abs, bi_int, len_lst, len_tup, len_scr, ix_lst, ix_tup, ix_scr, at_0, at_1, at_2, at_3, isN_non, isN_int, isN_tup, isN_lst, isN_str, isN_bl, List.getElem?_cons_succ, List.getElem?_cons_zero, Option.map_some, List.set_cons_succ, List.set_cons_zero, st, c0, c2, lenl, lenr, g0, g1, w0, w1, w2, w3, ad, Bool.not_true, Bool.not_false, p3]
          rfl
      · rw [if_neg h2]; rw [show isNum x2 0 9999 = false by simpa using h2] at w2
        refine .inr ⟨"begin", [some c.d, some (clkV x0 x1 x2 x3 x4), some x0.d, some x1.d, some x2.d, some x3.d, some x4.d], rfl, ?_⟩
        unfold c_check_clock
        simp only [bind_ok, fl_ok, of_some, seq_nx, seq_ret, pick_t, pick_f, getV_ok, putE_ok, putS_ok, ev_var, ev_non, ev_bl, ev_int, ev_str, ev_glob, ev_bin, ev_cmp, negD_int, ev_neg, notD_bl, ev_not, ev_band, ev_bor, pickE_t, pickE_f, and_1, and_c, or_1, or_c, ev_chain, ev_isN, ev_notN, ev_ite, ev_call, ev_bi, ev_tup, ev_new, new_f, ev_dnewK, ev_dnewT, ev_ix, ev_sl, ev_frz, evs_nil, evs_cons, evN_n, intN_int, evN_s, evO_n, evO_s, evL_disp, ev_join, joinM_s, evL_sorted, evL_sortk, evL_list, ev_dcomp, ex_rem, cmp_eqd, cmp_ned, iterL_t, iterL_l, evL_lrng, evL_stp, evL_rev, revM_l, evL_cat, evL_srtd, ev_cnt, evL_keys, seq_lst, seq_tup, ex_putp, evL_cm, evI_seq, evI_rng1, evI_rng2, evI_enum, exs_nil, exs_cons, exs_frz, ex_asg, setT_n, ex_par, ex_put, ex_aug, augD_ok, ex_drop, ex_app, ex_ifs, ex_for, ex_while, ex_ret, ex_retN, ex_pass, unlock_nx, unlock_ret, lock_seq, lock_cell, lockO_ok, evI_cell, iterO_ok, unlN_ok, unlock_nxs, lock_rng1, evI_rng3, lock_rng3, lock_rng2, lock_enum, lock_text, cmp_lt, cmp_le, cmp_gt, cmp_ge, cmp_eqi, cmp_nei, cmp_eqb, cmp_neb, b_add, b_sub, bi_abs, bi_int, len_lst, len_tup, len_scr, ix_lst, ix_tup, ix_scr, at_0, at_1, at_2, at_3, isN_non, isN_int, isN_tup, isN_lst, isN_str, isN_bl, List.getElem?_cons_succ, List.getElem?_cons_zero, Option.map_some, List.set_cons_succ, List.set_cons_zero, st, c0, c2, lenl, lenr, g0, g1, w0, w1, w2, Bool.not_true, Bool.not_false, p2]
        rfl
    · rw [if_neg h1]; rw [show isNum x1 0 ((c.lofts.length : Int) - 1) = false by simpa using h1] at w1
      refine .inr ⟨"loft", [some c.d, some (clkV x0 x1 x2 x3 x4), some x0.d, some x1.d, some x2.d, some x3.d, some x4.d], rfl, ?_⟩
      unfold c_check_clock
      simp only [bind_ok, fl_ok, of_some, seq_nx, seq_ret, pick_t, pick_f, getV_ok, putE_ok, putS_ok, ev_var, ev_non, ev_bl, ev_int, ev_str, ev_glob, ev_bin, ev_cmp, negD_int, ev_neg, notD_bl, ev_not, ev_band, ev_bor, pickE_t, pickE_f, and_1, and_c, or_1, or_c, ev_chain, ev_isN, ev_notN, ev_ite, ev_call, ev_bi, ev_tup, ev_new, new_f, ev_dnewK, ev_dnewT, ev_ix, ev_sl, ev_frz, evs_nil, evs_cons, evN_n, intN_int, evN_s, evO_n, evO_s, evL_disp, ev_join, joinM_s, evL_sorted, evL_sortk, evL_list, ev_dcomp, ex_rem, cmp_eqd, cmp_ned, iterL_t, iterL_l, evL_lrng, evL_stp, evL_rev, revM_l, evL_cat, evL_srtd, ev_cnt, evL_keys, seq_lst, seq_tup, ex_putp, evL_cm, evI_seq, evI_rng1, evI_rng2, evI_enum, exs_nil, exs_cons, exs_frz, ex_asg, setT_n, ex_par, ex_put, ex_aug, augD_ok, ex_drop, ex_app, ex_ifs, ex_for, ex_while, ex_ret, ex_retN, ex_pass, unlock_nx, unlock_ret, lock_seq, lock_cell, lockO_ok, evI_cell, iterO_ok, unlN_ok, unlock_nxs, lock_rng1, evI_rng3, lock_rng3, lock_rng2, lock_enum, lock_text, cmp_lt, cmp_le, cmp_gt, cmp_ge, cmp_eqi, cmp_nei, cmp_eqb, cmp_neb, b_add, b_sub, bi_abs, bi_int, len_lst, len_tup, len_scr, ix_lst, ix_tup, ix_scr, at_0, at_1, at_2, at_3, isN_non, isN_int, isN_tup, isN_lst, isN_str, isN_bl, List.getElem?_cons_succ, List.getElem?_cons_zero, Option.map_some, List.set_cons_succ, List.set_cons_zero, st, c0, c2, lenl, lenr, w0, w1, Bool.not_true, Bool.not_false, p1]
      rfl
  · rw [if_neg h0]; rw [show isNum x0 0 ((c.races.length : Int) - 1) = false by simpa using h0] at w0
    refine .inr ⟨"race", [some c.d, some (clkV x0 x1 x2 x3 x4), some x0.d, some x1.d, some x2.d, some x3.d, some x4.d], rfl, ?_⟩
    unfold c_check_clock
    simp only [bind_ok, fl_ok, of_some, seq_nx, seq_ret, pick_t, pick_f, getV_ok, putE_ok, putS_ok, ev_var, ev_non, ev_bl, ev_int, ev_str, ev_glob, ev_bin, ev_cmp, negD_int, ev_neg, notD_bl, ev_not, ev_band, ev_bor, pickE_t, pickE_f, and_1, and_c, or_1, or_c, ev_chain, ev_isN, ev_notN, ev_ite, ev_call, ev_bi, ev_tup, ev_new, new_f, ev_dnewK, ev_dnewT, ev_ix, ev_sl, ev_frz, evs_nil, evs_cons, evN_n, intN_int, evN_s, evO_n, evO_s, evL_disp, ev_join, joinM_s, evL_sorted, evL_sortk, evL_list, ev_dcomp, ex_rem, cmp_eqd, cmp_ned, iterL_t, iterL_l, evL_lrng, evL_stp, evL_rev, revM_l, evL_cat, evL_srtd, ev_cnt, evL_keys, seq_lst, seq_tup, ex_putp, evL_cm, evI_seq, evI_rng1, evI_rng2, evI_enum, exs_nil, exs_cons, exs_frz, ex_asg, setT_n, ex_par, ex_put, ex_aug, augD_ok, ex_drop, ex_app, ex_ifs, ex_for, ex_while, ex_ret, ex_retN, ex_pass, unlock_nx, unlock_ret, lock_seq, lock_cell, lockO_ok, evI_cell, iterO_ok, unlN_ok, unlock_nxs, lock_rng1, evI_rng3, lock_rng3, lock_rng2, lock_enum, lock_text, cmp_lt, cmp_le, cmp_gt, cmp_ge, cmp_eqi, cmp_nei, cmp_eqb, cmp_neb, b_add, b_sub, bi_abs, bi_int, len_lst, len_tup, len_scr, ix_lst, ix_tup, ix_scr, at_0, at_1, at_2, at_3, isN_non, isN_int, isN_tup, isN_lst, isN_str, isN_bl, List.getElem?_cons_succ, List.getElem?_cons_zero, Option.map_some, List.set_cons_succ, List.set_cons_zero, st, c2, lenr, w0, Bool.not_false, p0]
    rfl
theorem r_check_clock : (tellC c x0 x1 x2 x3 x4 = none ∧ f_check_clock [c.d, clkV x0 x1 x2 x3 x4] S = .ok .non S) ∨ (∃ w, tellC c x0 x1 x2 x3 x4 = some w ∧ f_check_clock [c.d, clkV x0 x1 x2 x3 x4] S = .ex "BadClock" [("word", .str w)] S) := by
  rcases core_clock (S := S) (c := c) (x0 := x0) (x1 := x1) (x2 := x2) (x3 := x3) (x4 := x4) with ⟨h1, ρ', h2⟩ | ⟨w, ρ', h1, h2⟩
  · refine .inl ⟨h1, ?_⟩
    have h3 : f_check_clock [c.d, clkV x0 x1 x2 x3 x4] S = expo S.length .non S := fn_nx (k := 7) rfl h2
    rw [h3, expo_flat rfl, List.take_length]
  · exact .inr ⟨w, h1, fn_exc (k := 7) rfl h2 rfl⟩
theorem r_Ldue : f_Ldue [c.d, clkV x0 x1 x2 x3 x4] S = .ok (strD (tellC c x0 x1 x2 x3 x4)) S := by
  have c0 : ∀ S, ixD c.d (.int 0) S = some (.tup (c.lofts.map Loft.d)) := fun S => (ix_tup).trans at_0
  have c2 : ∀ S, ixD c.d (.int 2) S = some (.tup (c.races.map Race.d)) := fun S => (ix_tup).trans at_2
  have lenl : ∀ S, biD .len [.tup (c.lofts.map Loft.d)] S = some (.int (c.lofts.length : Int)) := fun S => by rw [len_tup, List.length_map]
  have lenr : ∀ S, biD .len [.tup (c.races.map Race.d)] S = some (.int (c.races.length : Int)) := fun S => by rw [len_tup, List.length_map]
  have s0 : ∀ S, ixD (clkV x0 x1 x2 x3 x4) (.int 0) S = some x0.d := fun S => (ix_tup).trans at_0
  have s1 : ∀ S, ixD (clkV x0 x1 x2 x3 x4) (.int 1) S = some x1.d := fun S => (ix_tup).trans at_1
  have s2 : ∀ S, ixD (clkV x0 x1 x2 x3 x4) (.int 2) S = some x2.d := fun S => (ix_tup).trans at_2
  have s3 : ∀ S, ixD (clkV x0 x1 x2 x3 x4) (.int 3) S = some x3.d := fun S => (ix_tup).trans at_3
  have s4 : ∀ S, ixD (clkV x0 x1 x2 x3 x4) (.int 4) S = some x4.d := fun S => (ix_tup).trans (atI_nat (j := 4) rfl)
  have w0 := fun S => r_Lis_number (S := S) (v := x0) (a := 0) (z := (c.races.length : Int) - 1)
  have w1 := fun S => r_Lis_number (S := S) (v := x1) (a := 0) (z := (c.lofts.length : Int) - 1)
  have w2 := fun S => r_Lis_number (S := S) (v := x2) (a := 0) (z := 9999)
  have w3 := fun S => r_Lis_number (S := S) (v := x3) (a := bI x2 + 1) (z := 9999)
  have w4 := fun S => r_Lis_number (S := S) (v := x4) (a := bI x2 + 1) (z := 9999)
  have go : exs c_Ldue [some c.d, some (clkV x0 x1 x2 x3 x4)] S = .ret (strD (tellC c x0 x1 x2 x3 x4)) S := by
    unfold tellC
    by_cases h0 : isNum x0 0 ((c.races.length : Int) - 1) = true
    · rw [if_pos h0]; rw [h0] at w0
      by_cases h1 : isNum x1 0 ((c.lofts.length : Int) - 1) = true
      · rw [if_pos h1]; rw [h1] at w1
        by_cases h2 : isNum x2 0 9999 = true
        · rw [if_pos h2]; rw [h2] at w2
          have ad : ∀ S, binD .add x2.d (.int 1) S = some (.int (bI x2 + 1)) := fun S => by
            cases x2 with
            | vi n => rfl
            | _ => cases h2
          by_cases h3 : isNum x3 (bI x2 + 1) 9999 = true
          · rw [if_pos h3]; rw [h3] at w3
            by_cases h4 : isNum x4 (bI x2 + 1) 9999 = true
            · rw [if_pos h4]; rw [h4] at w4
              unfold c_Ldue
              simp only [bind_ok, fl_ok, of_some, seq_nx, seq_ret, pick_t, pick_f, getV_ok, putE_ok, putS_ok, ev_var, ev_non, ev_bl, ev_int, ev_str, ev_glob, ev_bin, ev_cmp, negD_int, ev_neg, notD_bl, ev_not, ev_band, ev_bor, pickE_t, pickE_f, and_1, and_c, or_1, or_c, ev_chain, ev_isN, ev_notN, ev_ite, ev_call, ev_bi, ev_tup, ev_new, new_f, ev_dnewK, ev_dnewT, ev_ix, ev_sl, ev_frz, evs_nil, evs_cons, evN_n, intN_int, evN_s, evO_n, evO_s, evL_disp, ev_join, joinM_s, evL_sorted, evL_sortk, evL_list, ev_dcomp, ex_rem, cmp_eqd, cmp_ned, iterL_t, iterL_l, evL_lrng, evL_stp, evL_rev, revM_l, evL_cat, evL_srtd, ev_cnt, evL_keys, seq_lst, seq_tup, ex_putp, evL_cm, evI_seq, evI_rng1, evI_rng2, evI_enum, exs_nil, exs_cons, exs_frz, ex_asg, setT_n, ex_par, ex_put, ex_aug, augD_ok, ex_drop, ex_app, ex_ifs, ex_for, ex_while, ex_ret, ex_retN, ex_pass, unlock_nx, unlock_ret, lock_seq, lock_cell, lockO_ok, evI_cell, iterO_ok, unlN_ok, unlock_nxs, lock_rng1, evI_rng3, lock_rng3, lock_rng2, lock_enum, lock_text, cmp_lt, cmp_le, cmp_gt, cmp_ge, cmp_eqi, cmp_nei, cmp_eqb, cmp_neb, b_add, b_sub, bi_abs, bi_int, len_lst, len_tup, len_scr, ix_lst, ix_tup, ix_scr, at_0, at_1, at_2, at_3, isN_non, isN_int, isN_tup, isN_lst, isN_str, isN_bl, List.getElem?_cons_succ, List.getElem?_cons_zero, Option.map_some, List.set_cons_succ, List.set_cons_zero, s0, s1, s2, s3, s4, c0, c2, lenl, lenr, w0, w1, w2, w3, w4, ad, Bool.not_true]
              rfl
            · rw [if_neg h4]; rw [show isNum x4 (bI x2 + 1) 9999 = false by simpa using h4] at w4
              unfold c_Ldue
              simp only [bind_ok, fl_ok, of_some, seq_nx, seq_ret, pick_t, pick_f, getV_ok, putE_ok, putS_ok, ev_var, ev_non, ev_bl, ev_int, ev_str, ev_glob, ev_bin, ev_cmp, negD_int, ev_neg, notD_bl, ev_not, ev_band, ev_bor, pickE_t, pickE_f, and_1, and_c, or_1, or_c, ev_chain, ev_isN, ev_notN, ev_ite, ev_call, ev_bi, ev_tup, ev_new, new_f, ev_dnewK, ev_dnewT, ev_ix, ev_sl, ev_frz, evs_nil, evs_cons, evN_n, intN_int, evN_s, evO_n, evO_s, evL_disp, ev_join, joinM_s, evL_sorted, evL_sortk, evL_list, ev_dcomp, ex_rem, cmp_eqd, cmp_ned, iterL_t, iterL_l, evL_lrng, evL_stp, evL_rev, revM_l, evL_cat, evL_srtd, ev_cnt, evL_keys, seq_lst, seq_tup, ex_putp, evL_cm, evI_seq, evI_rng1, evI_rng2, evI_enum, exs_nil, exs_cons, exs_frz, ex_asg, setT_n, ex_par, ex_put, ex_aug, augD_ok, ex_drop, ex_app, ex_ifs, ex_for, ex_while, ex_ret, ex_retN, ex_pass, unlock_nx, unlock_ret, lock_seq, lock_cell, lockO_ok, evI_cell, iterO_ok, unlN_ok, unlock_nxs, lock_rng1, evI_rng3, lock_rng3, lock_rng2, lock_enum, lock_text, cmp_lt, cmp_le, cmp_gt, cmp_ge, cmp_eqi, cmp_nei, cmp_eqb, cmp_neb, b_add, b_sub, bi_abs, bi_int, len_lst, len_tup, len_scr, ix_lst, ix_tup, ix_scr, at_0, at_1, at_2, at_3, isN_non, isN_int, isN_tup, isN_lst, isN_str, isN_bl, List.getElem?_cons_succ, List.getElem?_cons_zero, Option.map_some, List.set_cons_succ, List.set_cons_zero, s0, s1, s2, s3, s4, c0, c2, lenl, lenr, w0, w1, w2, w3, w4, ad, Bool.not_true, Bool.not_false]
              rfl
          · rw [if_neg h3]; rw [show isNum x3 (bI x2 + 1) 9999 = false by simpa using h3] at w3
            unfold c_Ldue
            simp only [bind_ok, fl_ok, of_some, seq_nx, seq_ret, pick_t, pick_f, getV_ok, putE_ok, putS_ok, ev_var, ev_non, ev_bl, ev_int, ev_str, ev_glob, ev_bin, ev_cmp, negD_int, ev_neg, notD_bl, ev_not, ev_band, ev_bor, pickE_t, pickE_f, and_1, and_c, or_1, or_c, ev_chain, ev_isN, ev_notN, ev_ite, ev_call, ev_bi, ev_tup, ev_new, new_f, ev_dnewK, ev_dnewT, ev_ix, ev_sl, ev_frz, evs_nil, evs_cons, evN_n, intN_int, evN_s, evO_n, evO_s, evL_disp, ev_join, joinM_s, evL_sorted, evL_sortk, evL_list, ev_dcomp, ex_rem, cmp_eqd, cmp_ned, iterL_t, iterL_l, evL_lrng, evL_stp, evL_rev, revM_l, evL_cat, evL_srtd, ev_cnt, evL_keys, seq_lst, seq_tup, ex_putp, evL_cm, evI_seq, evI_rng1, evI_rng2, evI_enum, exs_nil, exs_cons, exs_frz, ex_asg, setT_n, ex_par, ex_put, ex_aug, augD_ok, ex_drop, ex_app, ex_ifs, ex_for, ex_while, ex_ret, ex_retN, ex_pass, unlock_nx, unlock_ret, lock_seq, lock_cell, lockO_ok, evI_cell, iterO_ok, unlN_ok, unlock_nxs, lock_rng1, evI_rng3, lock_rng3, lock_rng2, lock_enum, lock_text, cmp_lt, cmp_le, cmp_gt, cmp_ge, cmp_eqi, cmp_nei, cmp_eqb, cmp_neb, b_add, b_sub, bi_abs, bi_int, len_lst, len_tup, len_scr, ix_lst, ix_tup, ix_scr, at_0, at_1, at_2, at_3, isN_non, isN_int, isN_tup, isN_lst, isN_str, isN_bl, List.getElem?_cons_succ, List.getElem?_cons_zero, Option.map_some, List.set_cons_succ, List.set_cons_zero, s0, s1, s2, s3, c0, c2, lenl, lenr, w0, w1, w2, w3, ad, Bool.not_true, Bool.not_false]
            rfl
        · rw [if_neg h2]; rw [show isNum x2 0 9999 = false by simpa using h2] at w2
          unfold c_Ldue
          simp only [bind_ok, fl_ok, of_some, seq_nx, seq_ret, pick_t, pick_f, getV_ok, putE_ok, putS_ok, ev_var, ev_non, ev_bl, ev_int, ev_str, ev_glob, ev_bin, ev_cmp, negD_int, ev_neg, notD_bl, ev_not, ev_band, ev_bor, pickE_t, pickE_f, and_1, and_c, or_1, or_c, ev_chain, ev_isN, ev_notN, ev_ite, ev_call, ev_bi, ev_tup, ev_new, new_f, ev_dnewK, ev_dnewT, ev_ix, ev_sl, ev_frz, evs_nil, evs_cons, evN_n, intN_int, evN_s, evO_n, evO_s, evL_disp, ev_join, joinM_s, evL_sorted, evL_sortk, evL_list, ev_dcomp, ex_rem, cmp_eqd, cmp_ned, iterL_t, iterL_l, evL_lrng, evL_stp, evL_rev, revM_l, evL_cat, evL_srtd, ev_cnt, evL_keys, seq_lst, seq_tup, ex_putp, evL_cm, evI_seq, evI_rng1, evI_rng2, evI_enum, exs_nil, exs_cons, exs_frz, ex_asg, setT_n, ex_par, ex_put, ex_aug, augD_ok, ex_drop, ex_app, ex_ifs, ex_for, ex_while, ex_ret, ex_retN, ex_pass, unlock_nx, unlock_ret, lock_seq, lock_cell, lockO_ok, evI_cell, iterO_ok, unlN_ok, unlock_nxs, lock_rng1, evI_rng3, lock_rng3, lock_rng2, lock_enum, lock_text, cmp_lt, cmp_le, cmp_gt, cmp_ge, cmp_eqi, cmp_nei, cmp_eqb, cmp_neb, b_add, b_sub, bi_abs, bi_int, len_lst, len_tup, len_scr, ix_lst, ix_tup, ix_scr, at_0, at_1, at_2, at_3, isN_non, isN_int, isN_tup, isN_lst, isN_str, isN_bl, List.getElem?_cons_succ, List.getElem?_cons_zero, Option.map_some, List.set_cons_succ, List.set_cons_zero, s0, s1, s2, c0, c2, lenl, lenr, w0, w1, w2, Bool.not_true, Bool.not_false]
          rfl
      · rw [if_neg h1]; rw [show isNum x1 0 ((c.lofts.length : Int) - 1) = false by simpa using h1] at w1
        unfold c_Ldue
        simp only [bind_ok, fl_ok, of_some, seq_nx, seq_ret, pick_t, pick_f, getV_ok, putE_ok, putS_ok, ev_var, ev_non, ev_bl, ev_int, ev_str, ev_glob, ev_bin, ev_cmp, negD_int, ev_neg, notD_bl, ev_not, ev_band, ev_bor, pickE_t, pickE_f, and_1, and_c, or_1, or_c, ev_chain, ev_isN, ev_notN, ev_ite, ev_call, ev_bi, ev_tup, ev_new, new_f, ev_dnewK, ev_dnewT, ev_ix, ev_sl, ev_frz, evs_nil, evs_cons, evN_n, intN_int, evN_s, evO_n, evO_s, evL_disp, ev_join, joinM_s, evL_sorted, evL_sortk, evL_list, ev_dcomp, ex_rem, cmp_eqd, cmp_ned, iterL_t, iterL_l, evL_lrng, evL_stp, evL_rev, revM_l, evL_cat, evL_srtd, ev_cnt, evL_keys, seq_lst, seq_tup, ex_putp, evL_cm, evI_seq, evI_rng1, evI_rng2, evI_enum, exs_nil, exs_cons, exs_frz, ex_asg, setT_n, ex_par, ex_put, ex_aug, augD_ok, ex_drop, ex_app, ex_ifs, ex_for, ex_while, ex_ret, ex_retN, ex_pass, unlock_nx, unlock_ret, lock_seq, lock_cell, lockO_ok, evI_cell, iterO_ok, unlN_ok, unlock_nxs, lock_rng1, evI_rng3, lock_rng3, lock_rng2, lock_enum, lock_text, cmp_lt, cmp_le, cmp_gt, cmp_ge, cmp_eqi, cmp_nei, cmp_eqb, cmp_neb, b_add, b_sub, bi_abs, bi_int, len_lst, len_tup, len_scr, ix_lst, ix_tup, ix_scr, at_0, at_1, at_2, at_3, isN_non, isN_int, isN_tup, isN_lst, isN_str, isN_bl, List.getElem?_cons_succ, List.getElem?_cons_zero, Option.map_some, List.set_cons_succ, List.set_cons_zero, s0, s1, c0, c2, lenl, lenr, w0, w1, Bool.not_true, Bool.not_false]
        rfl
    · rw [if_neg h0]; rw [show isNum x0 0 ((c.races.length : Int) - 1) = false by simpa using h0] at w0
      unfold c_Ldue
      simp only [bind_ok, fl_ok, of_some, seq_nx, seq_ret, pick_t, pick_f, getV_ok, putE_ok, putS_ok, ev_var, ev_non, ev_bl, ev_int, ev_str, ev_glob, ev_bin, ev_cmp, negD_int, ev_neg, notD_bl, ev_not, ev_band, ev_bor, pickE_t, pickE_f, and_1, and_c, or_1, or_c, ev_chain, ev_isN, ev_notN, ev_ite, ev_call, ev_bi, ev_tup, ev_new, new_f, ev_dnewK, ev_dnewT, ev_ix, ev_sl, ev_frz, evs_nil, evs_cons, evN_n, intN_int, evN_s, evO_n, evO_s, evL_disp, ev_join, joinM_s, evL_sorted, evL_sortk, evL_list, ev_dcomp, ex_rem, cmp_eqd, cmp_ned, iterL_t, iterL_l, evL_lrng, evL_stp, evL_rev, revM_l, evL_cat, evL_srtd, ev_cnt, evL_keys, seq_lst, seq_tup, ex_putp, evL_cm, evI_seq, evI_rng1, evI_rng2, evI_enum, exs_nil, exs_cons, exs_frz, ex_asg, setT_n, ex_par, ex_put, ex_aug, augD_ok, ex_drop, ex_app, ex_ifs, ex_for, ex_while, ex_ret, ex_retN, ex_pass, unlock_nx, unlock_ret, lock_seq, lock_cell, lockO_ok, evI_cell, iterO_ok, unlN_ok, unlock_nxs, lock_rng1, evI_rng3, lock_rng3, lock_rng2, lock_enum, lock_text, cmp_lt, cmp_le, cmp_gt, cmp_ge, cmp_eqi, cmp_nei, cmp_eqb, cmp_neb, b_add, b_sub, bi_abs, bi_int, len_lst, len_tup, len_scr, ix_lst, ix_tup, ix_scr, at_0, at_1, at_2, at_3, isN_non, isN_int, isN_tup, isN_lst, isN_str, isN_bl, List.getElem?_cons_succ, List.getElem?_cons_zero, Option.map_some, List.set_cons_succ, List.set_cons_zero, s0, c2, lenr, w0, Bool.not_false]
      rfl
  exact fn_same (k := 2) (S' := S) rfl go (by cases tellC c x0 x1 x2 x3 x4 <;> rfl) rfl
theorem r_hot {w : Str} : f_h_Lsame [.str w, .str w] S = .ok (.bl true) S := by
  refine fn_same (k := 3) (S' := S) rfl ?_ rfl rfl
  show exs c_h_Lsame [some (.str w), some (.str w), none] S = _
  have e1 : ∀ S, biD .isList [.str w] S = some (.bl false) := fun S => rfl
  have e2 : ∀ S, biD .isTuple [.str w] S = some (.bl false) := fun S => rfl
  have e3 : ∀ S, biD .isBool [.str w] S = some (.bl false) := fun S => rfl
  have e4 : ∀ S, biD .isStr [.str w] S = some (.bl true) := fun S => rfl
  have e5 : ∀ S, cmpD .eq (.str w) (.str w) S = some true := fun S => by
    show some (w == w) = _
    rw [beq_self_eq_true]
  have e6 : ∀ S, isNon (.str w) S = some false := fun S => rfl
  unfold c_h_Lsame
  simp only [bind_ok, fl_ok, of_some, seq_nx, seq_ret, pick_t, pick_f, getV_ok, putE_ok, putS_ok, ev_var, ev_non, ev_bl, ev_int, ev_str, ev_glob, ev_bin, ev_cmp, negD_int, ev_neg, notD_bl, ev_not, ev_band, ev_bor, pickE_t, pickE_f, and_1, and_c, or_1, or_c, ev_chain, ev_isN, ev_notN, ev_ite, ev_call, ev_bi, ev_tup, ev_new, new_f, ev_dnewK, ev_dnewT, ev_ix, ev_sl, ev_frz, evs_nil, evs_cons, evN_n, intN_int, evN_s, evO_n, evO_s, evL_disp, ev_join, joinM_s, evL_sorted, evL_sortk, evL_list, ev_dcomp, ex_rem, cmp_eqd, cmp_ned, iterL_t, iterL_l, evL_lrng, evL_stp, evL_rev, revM_l, evL_cat, evL_srtd, ev_cnt, evL_keys, seq_lst, seq_tup, ex_putp, evL_cm, evI_seq, evI_rng1, evI_rng2, evI_enum, exs_nil, exs_cons, exs_frz, ex_asg, setT_n, ex_par, ex_put, ex_aug, augD_ok, ex_drop, ex_app, ex_ifs, ex_for, ex_while, ex_ret, ex_retN, ex_pass, unlock_nx, unlock_ret, lock_seq, lock_cell, lockO_ok, evI_cell, iterO_ok, unlN_ok, unlock_nxs, lock_rng1, evI_rng3, lock_rng3, lock_rng2, lock_enum, lock_text, cmp_lt, cmp_le, cmp_gt, cmp_ge, cmp_eqi, cmp_nei, cmp_eqb, cmp_neb, b_add, b_sub, bi_abs, bi_int, len_lst, len_tup, len_scr, ix_lst, ix_tup, ix_scr, at_0, at_1, at_2, at_3, isN_non, isN_int, isN_tup, isN_lst, isN_str, isN_bl, List.getElem?_cons_succ, List.getElem?_cons_zero, Option.map_some, List.set_cons_succ, List.set_cons_zero, e1, e2, e3, e4, e5, e6]
end
end MI.K
set_option exponentiation.threshold 5000
namespace MI.K
open PySem PySem.Spec L2
theorem add_tup {a b : List D} {S : Store} (h : a.length + b.length ≤ 1000000) : binD .add (.tup a) (.tup b) S = some (.tup (a ++ b)) := by
  show (if _ then _ else _) = _
  rw [if_pos h]
structure C5 where
  x0 : Vl
  x1 : Vl
  x2 : Vl
  x3 : Vl
  x4 : Vl
def C5.d (x : C5) : D := clkV x.x0 x.x1 x.x2 x.x3 x.x4
def C5.tell (c : Club) (x : C5) : Option Str := tellC c x.x0 x.x1 x.x2 x.x3 x.x4
def chg (x : C5) (k : Nat) (v : Vl) : C5 := match k with
  | 0 => { x with x0 := v }
  | 1 => { x with x1 := v }
  | 2 => { x with x2 := v }
  | 3 => { x with x3 := v }
  | _ => { x with x4 := v }
theorem chg_ok {x : C5} {k : Nat} {v : Vl} (hk : k < 5) : ∃ a b e, (∀ S, slD x.d none (some (k : Int)) S = some a) ∧ (∀ S, slD x.d (some ((k : Int) + 1)) none S = some b) ∧ (∀ S, binD .add a (.tup [v.d]) S = some e) ∧ (∀ S, binD .add e b S = some (chg x k v).d) := by
  match k, hk with
  | 0, _ => exact ⟨.tup [], .tup [x.x1.d, x.x2.d, x.x3.d, x.x4.d], .tup [v.d], fun _ => rfl, fun _ => rfl, fun _ => add_tup (by simp), fun _ => add_tup (by simp)⟩
  | 1, _ => exact ⟨.tup [x.x0.d], .tup [x.x2.d, x.x3.d, x.x4.d], .tup [x.x0.d, v.d], fun _ => rfl, fun _ => rfl, fun _ => add_tup (by simp), fun _ => add_tup (by simp)⟩
  | 2, _ => exact ⟨.tup [x.x0.d, x.x1.d], .tup [x.x3.d, x.x4.d], .tup [x.x0.d, x.x1.d, v.d], fun _ => rfl, fun _ => rfl, fun _ => add_tup (by simp), fun _ => add_tup (by simp)⟩
  | 3, _ => exact ⟨.tup [x.x0.d, x.x1.d, x.x2.d], .tup [x.x4.d], .tup [x.x0.d, x.x1.d, x.x2.d, v.d], fun _ => rfl, fun _ => rfl, fun _ => add_tup (by simp), fun _ => add_tup (by simp)⟩
  | 4, _ => exact ⟨.tup [x.x0.d, x.x1.d, x.x2.d, x.x3.d], .tup [], .tup [x.x0.d, x.x1.d, x.x2.d, x.x3.d, v.d], fun _ => rfl, fun _ => rfl, fun _ => add_tup (by simp), fun _ => add_tup (by simp)⟩
def valsV (n m : Int) (b : Vl) : List Vl := [.vi 0, .vi (-1), .vi 1, .vi 9999, .vi 10000, .vb true, .vb false, .vn, .vs, .vt, .vi n, .vi m, b, .vi 5]
theorem b1_turn {ds : List Int} {k : Nat} {c : Club} {x : C5} {t : D} {x0 x4 x5 x6 x7 x8 x9 : Option D} :
    ∃ k' x' y7 y8, turnF (.name 4) b_law_1 t [x0, some (.ptr 0), some c.d, some (C5.d x), x4, x5, x6, x7, x8, x9] [bxC ds k] = .nx [x0, some (.ptr 0), some c.d, some (C5.d x'), some t, x5, x6, y7, y8, x9] [bxC ds k'] := by
  have c0 : ∀ S, ixD c.d (.int 0) S = some (.tup (c.lofts.map Loft.d)) := fun S => (ix_tup).trans at_0
  have c2 : ∀ S, ixD c.d (.int 2) S = some (.tup (c.races.map Race.d)) := fun S => (ix_tup).trans at_2
  have lenl : ∀ S, biD .len [.tup (c.lofts.map Loft.d)] S = some (.int (c.lofts.length : Int)) := fun S => by rw [len_tup, List.length_map]
  have lenr : ∀ S, biD .len [.tup (c.races.map Race.d)] S = some (.int (c.races.length : Int)) := fun S => by rw [len_tup, List.length_map]
  have s2 : ∀ S, ixD (C5.d x) (.int 2) S = some x.x2.d := fun S => (ix_tup).trans at_2
  have a1 := drw_lt (ds := ds) (k := k) (m := 5) (by decide)
  have a2 := drw_lt (ds := ds) (k := k + 1) (m := 14) (by decide)
  obtain ⟨n, en⟩ : ∃ n : Nat, drw ds k 5 = (n : Int) := ⟨_, (Int.toNat_of_nonneg a1.1).symm⟩
  obtain ⟨j, ej⟩ : ∃ j : Nat, drw ds (k + 1) 14 = (j : Int) := ⟨_, (Int.toNat_of_nonneg a2.1).symm⟩
  have hj : j < (valsV (c.races.length : Int) (c.lofts.length : Int) x.x2).length := by
    show j < 14
    omega
  have e1 := r_Ldraw (ds := ds) (k := k) (m := 5) (T := []) (by decide)
  have e2 := r_Ldraw (ds := ds) (k := k + 1) (m := 14) (T := []) (by decide)
  rw [en] at e1
  rw [ej] at e2
  have at_ : ∀ S, ixD (.lst ((valsV (c.races.length : Int) (c.lofts.length : Int) x.x2).map Vl.d)) (.int (j : Int)) S = some ((valsV (c.races.length : Int) (c.lofts.length : Int) x.x2)[j]).d := fun S => (ix_lst).trans (at_map (List.getElem?_eq_getElem hj))
  generalize (valsV (c.races.length : Int) (c.lofts.length : Int) x.x2)[j] = v at at_
  obtain ⟨a, b, e, g1, g2, g3, g4⟩ := chg_ok (x := x) (k := n) (v := v) (by omega)
  have vals : ∀ S, evs (.cons (.int 0) (.cons (.neg (.int 1)) (.cons (.int 1) (.cons (.int 9999) (.cons (.int 10000) (.cons (.bl true) (.cons (.bl false) (.cons .non (.cons (.str "1") (.cons (.tup (.cons (.int 1) .nil)) (.cons (.bi .len (.cons (.ix (.var 2) (.int 2)) .nil)) (.cons (.bi .len (.cons (.ix (.var 2) (.int 0)) .nil)) (.cons (.ix (.var 3) (.int 2)) (.cons (.int 5) .nil))))))))))))))
      [x0, some (.ptr 0), some c.d, some (C5.d x), some t, x5, x6, some (.int (n : Int)), x8, x9] S = .ok ((valsV (c.races.length : Int) (c.lofts.length : Int) x.x2).map Vl.d) S := fun S => by
    simp only [bind_ok, fl_ok, of_some, seq_nx, seq_ret, pick_t, pick_f, getV_ok, putE_ok, putS_ok, ev_var, ev_non, ev_bl, ev_int, ev_str, ev_glob, ev_bin, ev_cmp, negD_int, ev_neg, notD_bl, ev_not, ev_band, ev_bor, pickE_t, pickE_f, and_1, and_c, or_1, or_c, ev_chain, ev_isN, ev_notN, ev_ite, ev_call, ev_bi, ev_tup, ev_new, new_f, ev_dnewK, ev_dnewT, ev_ix, ev_sl, ev_frz, evs_nil, evs_cons, evN_n, intN_int, evN_s, evO_n, evO_s, evL_disp, ev_join, joinM_s, evL_sorted, evL_sortk, evL_list, ev_dcomp, ex_rem, cmp_eqd, cmp_ned, iterL_t, iterL_l, evL_lrng, evL_stp, evL_rev, revM_l, evL_cat, evL_srtd, ev_cnt, evL_keys, seq_lst, seq_tup, ex_putp, evL_cm, evI_seq, evI_rng1, evI_rng2, evI_enum, exs_nil, exs_cons, exs_frz, ex_asg, setT_n, ex_par, ex_put, ex_aug, augD_ok, ex_drop, ex_app, ex_ifs, ex_for, ex_while, ex_ret, ex_retN, ex_pass, unlock_nx, unlock_ret, lock_seq, lock_cell, lockO_ok, evI_cell, iterO_ok, unlN_ok, unlock_nxs, lock_rng1, evI_rng3, lock_rng3, lock_rng2, lock_enum, lock_text, cmp_lt, cmp_le, cmp_gt, cmp_ge, cmp_eqi, cmp_nei, cmp_eqb, cmp_neb, b_add, b_sub, bi_abs, bi_int, len_lst, len_tup, len_scr, ix_lst, ix_tup, ix_scr, at_0, at_1, at_2, at_3, isN_non, isN_int, isN_tup, isN_lst, isN_str, isN_bl, List.getElem?_cons_succ, List.getElem?_cons_zero, Option.map_some, List.set_cons_succ, List.set_cons_zero, c0, c2, lenl, lenr, s2]
    rfl
  refine ⟨k + 1 + 1, chg x n v, some (.int (n : Int)), some (.lst ((valsV (c.races.length : Int) (c.lofts.length : Int) x.x2).map Vl.d)), ?_⟩
  show exs b_law_1 [x0, some (.ptr 0), some c.d, some (C5.d x), some t, x5, x6, x7, x8, x9] [bxC ds k] = _
  unfold b_law_1
  simp only [bind_ok, fl_ok, of_some, seq_nx, seq_ret, pick_t, pick_f, getV_ok, putE_ok, putS_ok, ev_var, ev_non, ev_bl, ev_int, ev_str, ev_glob, ev_bin, ev_cmp, negD_int, ev_neg, notD_bl, ev_not, ev_band, ev_bor, pickE_t, pickE_f, and_1, and_c, or_1, or_c, ev_chain, ev_isN, ev_notN, ev_ite, ev_call, ev_bi, ev_tup, ev_new, new_f, ev_dnewK, ev_dnewT, ev_ix, ev_sl, ev_frz, evs_nil, evs_cons, evN_n, intN_int, evN_s, evO_n, evO_s, evL_disp, ev_join, joinM_s, evL_sorted, evL_sortk, evL_list, ev_dcomp, ex_rem, cmp_eqd, cmp_ned, iterL_t, iterL_l, evL_lrng, evL_stp, evL_rev, revM_l, evL_cat, evL_srtd, ev_cnt, evL_keys, seq_lst, seq_tup, ex_putp, evL_cm, evI_seq, evI_rng1, evI_rng2, evI_enum, exs_nil, exs_cons, exs_frz, ex_asg, setT_n, ex_par, ex_put, ex_aug, augD_ok, ex_drop, ex_app, ex_ifs, ex_for, ex_while, ex_ret, ex_retN, ex_pass, unlock_nx, unlock_ret, lock_seq, lock_cell, lockO_ok, evI_cell, iterO_ok, unlN_ok, unlock_nxs, lock_rng1, evI_rng3, lock_rng3, lock_rng2, lock_enum, lock_text, cmp_lt, cmp_le, cmp_gt, cmp_ge, cmp_eqi, cmp_nei, cmp_eqb, cmp_neb, b_add, b_sub, bi_abs, bi_int, len_lst, len_tup, len_scr, ix_lst, ix_tup, ix_scr, at_0, at_1, at_2, at_3, isN_non, isN_int, isN_tup, isN_lst, isN_str, isN_bl, List.getElem?_cons_succ, List.getElem?_cons_zero, Option.map_some, List.set_cons_succ, List.set_cons_zero, e1, vals, e2, at_, g1, g2, g3, g4]
theorem lt_0 : ∀ l : List Int, ltL (l.map D.int) 0 = true
  | [] => rfl
  | a :: l => by
    rw [List.map_cons]
    show (true && ltL (l.map D.int) 0) = true
    rw [lt_0 l]
    rfl
theorem law_true : ∀ ns : List Int, ns.length ≤ 63 → ∃ S, f_law [.scr (ns.map D.int)] [] = .ok (.bl true) S := by
  intro ns _
  obtain ⟨ds, hd⟩ := r_Ldigits (ns := ns) (lo := 0) (hi := 63) (by decide) (by decide) (by decide)
  have hn : newL true [.lst (ds.map .int), .int 0] [] = .ok (.ptr 0) [bxC ds 0] := by
    rw [new_t (by show (ltL (ds.map D.int) 0 && true) = true; rw [lt_0]; rfl)]
    rfl
  obtain ⟨c, k, ec, hc⟩ := r_Lclub (ds := ds) (k := 0) (nl := 3) (nb := 0) (nr := 3) (by decide) (by decide) (by decide) (by decide) (by decide) (by decide)
  have c0 : ∀ S, ixD c.d (.int 0) S = some (.tup (c.lofts.map Loft.d)) := fun S => (ix_tup).trans at_0
  have c2 : ∀ S, ixD c.d (.int 2) S = some (.tup (c.races.map Race.d)) := fun S => (ix_tup).trans at_2
  have lenl : ∀ S, biD .len [.tup (c.lofts.map Loft.d)] S = some (.int (c.lofts.length : Int)) := fun S => by rw [len_tup, List.length_map]
  have lenr : ∀ S, biD .len [.tup (c.races.map Race.d)] S = some (.int (c.races.length : Int)) := fun S => by rw [len_tup, List.length_map]
  have r1 := hc.r1; have l0 := hc.l0; have l1 := hc.l1
  have fin : ∀ S', exs c_law [some (.scr (ns.map .int)), none, none, none, none, none, none, none, none, none] [] = .ret (.bl true) S' → ∃ S, f_law [.scr (ns.map D.int)] [] = .ok (.bl true) S := fun S' h => ⟨_, (fn_ret (k := 10) rfl h).trans (expo_flat rfl)⟩
  by_cases hr : (c.races.length : Int) = 0
  · refine fin [bxC ds k] ?_
    have e : ((c.races.length : Int) == 0) = true := by simpa using hr
    unfold c_law
    simp only [bind_ok, fl_ok, of_some, seq_nx, seq_ret, pick_t, pick_f, getV_ok, putE_ok, putS_ok, ev_var, ev_non, ev_bl, ev_int, ev_str, ev_glob, ev_bin, ev_cmp, negD_int, ev_neg, notD_bl, ev_not, ev_band, ev_bor, pickE_t, pickE_f, and_1, and_c, or_1, or_c, ev_chain, ev_isN, ev_notN, ev_ite, ev_call, ev_bi, ev_tup, ev_new, new_f, ev_dnewK, ev_dnewT, ev_ix, ev_sl, ev_frz, evs_nil, evs_cons, evN_n, intN_int, evN_s, evO_n, evO_s, evL_disp, ev_join, joinM_s, evL_sorted, evL_sortk, evL_list, ev_dcomp, ex_rem, cmp_eqd, cmp_ned, iterL_t, iterL_l, evL_lrng, evL_stp, evL_rev, revM_l, evL_cat, evL_srtd, ev_cnt, evL_keys, seq_lst, seq_tup, ex_putp, evL_cm, evI_seq, evI_rng1, evI_rng2, evI_enum, exs_nil, exs_cons, exs_frz, ex_asg, setT_n, ex_par, ex_put, ex_aug, augD_ok, ex_drop, ex_app, ex_ifs, ex_for, ex_while, ex_ret, ex_retN, ex_pass, unlock_nx, unlock_ret, lock_seq, lock_cell, lockO_ok, evI_cell, iterO_ok, unlN_ok, unlock_nxs, lock_rng1, evI_rng3, lock_rng3, lock_rng2, lock_enum, lock_text, cmp_lt, cmp_le, cmp_gt, cmp_ge, cmp_eqi, cmp_nei, cmp_eqb, cmp_neb, b_add, b_sub, bi_abs, bi_int, len_lst, len_tup, len_scr, ix_lst, ix_tup, ix_scr, at_0, at_1, at_2, at_3, isN_non, isN_int, isN_tup, isN_lst, isN_str, isN_bl, List.getElem?_cons_succ, List.getElem?_cons_zero, Option.map_some, List.set_cons_succ, List.set_cons_zero, hd, hn, ec, c2, lenr, e]
  · have e : ((c.races.length : Int) == 0) = false := by simpa using hr
    have hr0 : (0 : Int) < (c.races.length : Int) := by omega
    have hl0 : (0 : Int) < (c.lofts.length : Int) := by omega
    have a1 := drw_lt (ds := ds) (k := k) (m := (c.races.length : Int)) hr0
    have a2 := drw_lt (ds := ds) (k := k + 1) (m := (c.lofts.length : Int)) hl0
    obtain ⟨i, ei⟩ : ∃ n : Nat, drw ds k (c.races.length : Int) = (n : Int) := ⟨_, (Int.toNat_of_nonneg a1.1).symm⟩
    obtain ⟨j, ej⟩ : ∃ n : Nat, drw ds (k + 1) (c.lofts.length : Int) = (n : Int) := ⟨_, (Int.toNat_of_nonneg a2.1).symm⟩
    have hi : i < c.races.length := by omega
    have e1 := r_Ldraw (ds := ds) (k := k) (m := (c.races.length : Int)) (T := []) hr0
    have e2 := r_Ldraw (ds := ds) (k := k + 1) (m := (c.lofts.length : Int)) (T := []) hl0
    rw [ei] at e1
    rw [ej] at e2
    obtain ⟨q, k1, e3, qok, qra, qlo⟩ := r_Lclock (ds := ds) (k := k + 1 + 1) (c := c) (i := i) (j := j) (T := []) (List.getElem?_eq_getElem hi) (hc.ra _ (List.getElem_mem hi))
    have qd : q.d = C5.d ⟨.vi q.ra, .vi q.lo, .vi q.b, .vi q.e, .vi q.s⟩ := rfl
    have b0 := qok.b0; have b1 := qok.b1; have q0 := qok.e0; have q1 := qok.e1; have s0 := qok.s0; have s1 := qok.s1
    have tn : ∀ {n a z : Int}, a ≤ n → n ≤ z → isNum (.vi n) a z = true := fun {n a z} h1 h2 => by
      show (decide (a ≤ n) && decide (n ≤ z)) = true
      rw [decide_eq_true h1, decide_eq_true h2]
      rfl
    have right : tellC c (.vi q.ra) (.vi q.lo) (.vi q.b) (.vi q.e) (.vi q.s) = none := by
      unfold tellC
      rw [if_pos (tn (by omega) (by omega)), if_pos (tn (by omega) (by omega)), if_pos (tn (by omega) (by omega)), if_pos (tn (by show q.b + 1 ≤ q.e; omega) (by omega)), if_pos (tn (by show q.b + 1 ≤ q.s; omega) (by omega))]
    have ck : ∀ S, f_check_clock [c.d, C5.d ⟨.vi q.ra, .vi q.lo, .vi q.b, .vi q.e, .vi q.s⟩] S = .ok .non S := fun S => by
      rcases r_check_clock (S := S) (c := c) (x0 := .vi q.ra) (x1 := .vi q.lo) (x2 := .vi q.b) (x3 := .vi q.e) (x4 := .vi q.s) with ⟨_, h⟩ | ⟨w, h, _⟩
      · exact h
      · rw [right] at h; cases h
    rw [qd] at e3
    generalize (⟨.vi q.ra, .vi q.lo, .vi q.b, .vi q.e, .vi q.s⟩ : C5) = x at e3 ck
    have a3 := drw_lt (ds := ds) (k := k1) (m := 2) (by decide)
    have e4 := r_Ldraw (ds := ds) (k := k1) (m := 2) (T := []) (by decide)
    obtain ⟨ρ', S', f1, k2, x', y4, y7, y8, rfl, rfl⟩ := forL_inv (f := turnF (.name 4) b_law_1) (I := fun _ ρ S' => ∃ k2 x' x4 x7 x8, ρ = [some (.scr (ns.map .int)), some (.ptr 0), some c.d, some (C5.d x'), x4, none, none, x7, x8, none] ∧ S' = [bxC ds k2]) (rangeD 0 (1 + drw ds k1 2)) 0
      [some (.scr (ns.map .int)), some (.ptr 0), some c.d, some (C5.d x), none, none, none, none, none, none] [bxC ds (k1 + 1)] ⟨_, _, _, _, _, rfl, rfl⟩ (by
      rintro i d ρ S' hd ⟨k2, x', x4, x7, x8, rfl, rfl⟩
      obtain ⟨k', x'', y7, y8, e⟩ := b1_turn (ds := ds) (k := k2) (c := c) (x := x') (t := d) (x0 := some (.scr (ns.map .int))) (x4 := x4) (x5 := none) (x6 := none) (x7 := x7) (x8 := x8) (x9 := none)
      exact ⟨_, _, e, _, _, _, _, _, rfl, rfl⟩)
    have du : f_Ldue [c.d, C5.d x'] [bxC ds k2] = .ok (strD (C5.tell c x')) [bxC ds k2] := r_Ldue
    have nn : ∀ S, isNon .non S = some true := fun S => rfl
    refine fin [bxC ds k2] ?_
    rcases r_check_clock (S := [bxC ds k2]) (c := c) (x0 := x'.x0) (x1 := x'.x1) (x2 := x'.x2) (x3 := x'.x3) (x4 := x'.x4) with ⟨h1, h2⟩ | ⟨w, h1, h2⟩
    · have h1 : C5.tell c x' = none := h1
      have h2 : f_check_clock [c.d, C5.d x'] [bxC ds k2] = .ok .non [bxC ds k2] := h2
      rw [h1] at du
      have du' : f_Ldue [c.d, C5.d x'] [bxC ds k2] = .ok .non [bxC ds k2] := du
      have t : exs b_law_2 [some (.scr (ns.map .int)), some (.ptr 0), some c.d, some (C5.d x'), y4, some .non, none, y7, y8, none] [bxC ds k2] = .nx [some (.scr (ns.map .int)), some (.ptr 0), some c.d, some (C5.d x'), y4, some .non, none, y7, y8, some .non] [bxC ds k2] := by
        unfold b_law_2
        simp only [bind_ok, fl_ok, of_some, seq_nx, seq_ret, pick_t, pick_f, getV_ok, putE_ok, putS_ok, ev_var, ev_non, ev_bl, ev_int, ev_str, ev_glob, ev_bin, ev_cmp, negD_int, ev_neg, notD_bl, ev_not, ev_band, ev_bor, pickE_t, pickE_f, and_1, and_c, or_1, or_c, ev_chain, ev_isN, ev_notN, ev_ite, ev_call, ev_bi, ev_tup, ev_new, new_f, ev_dnewK, ev_dnewT, ev_ix, ev_sl, ev_frz, evs_nil, evs_cons, evN_n, intN_int, evN_s, evO_n, evO_s, evL_disp, ev_join, joinM_s, evL_sorted, evL_sortk, evL_list, ev_dcomp, ex_rem, cmp_eqd, cmp_ned, iterL_t, iterL_l, evL_lrng, evL_stp, evL_rev, revM_l, evL_cat, evL_srtd, ev_cnt, evL_keys, seq_lst, seq_tup, ex_putp, evL_cm, evI_seq, evI_rng1, evI_rng2, evI_enum, exs_nil, exs_cons, exs_frz, ex_asg, setT_n, ex_par, ex_put, ex_aug, augD_ok, ex_drop, ex_app, ex_ifs, ex_for, ex_while, ex_ret, ex_retN, ex_pass, unlock_nx, unlock_ret, lock_seq, lock_cell, lockO_ok, evI_cell, iterO_ok, unlN_ok, unlock_nxs, lock_rng1, evI_rng3, lock_rng3, lock_rng2, lock_enum, lock_text, cmp_lt, cmp_le, cmp_gt, cmp_ge, cmp_eqi, cmp_nei, cmp_eqb, cmp_neb, b_add, b_sub, bi_abs, bi_int, len_lst, len_tup, len_scr, ix_lst, ix_tup, ix_scr, at_0, at_1, at_2, at_3, isN_non, isN_int, isN_tup, isN_lst, isN_str, isN_bl, List.getElem?_cons_succ, List.getElem?_cons_zero, Option.map_some, List.set_cons_succ, List.set_cons_zero, h2]
      have t2 : ex (.try_ b_law_2 "BadClock" ["BadClock"] [] (some 6) ["word"] (.retC "_law_same" f_h_Lsame [(.fld "word"), (.var 5)])) [some (.scr (ns.map .int)), some (.ptr 0), some c.d, some (C5.d x'), y4, some .non, none, y7, y8, none] [bxC ds k2] = .nx [some (.scr (ns.map .int)), some (.ptr 0), some c.d, some (C5.d x'), y4, some .non, none, y7, y8, some .non] [bxC ds k2] := by
        unfold ex
        rw [t]
      unfold c_law
      simp only [bind_ok, fl_ok, of_some, seq_nx, seq_ret, pick_t, pick_f, getV_ok, putE_ok, putS_ok, ev_var, ev_non, ev_bl, ev_int, ev_str, ev_glob, ev_bin, ev_cmp, negD_int, ev_neg, notD_bl, ev_not, ev_band, ev_bor, pickE_t, pickE_f, and_1, and_c, or_1, or_c, ev_chain, ev_isN, ev_notN, ev_ite, ev_call, ev_bi, ev_tup, ev_new, new_f, ev_dnewK, ev_dnewT, ev_ix, ev_sl, ev_frz, evs_nil, evs_cons, evN_n, intN_int, evN_s, evO_n, evO_s, evL_disp, ev_join, joinM_s, evL_sorted, evL_sortk, evL_list, ev_dcomp, ex_rem, cmp_eqd, cmp_ned, iterL_t, iterL_l, evL_lrng, evL_stp, evL_rev, revM_l, evL_cat, evL_srtd, ev_cnt, evL_keys, seq_lst, seq_tup, ex_putp, evL_cm, evI_seq, evI_rng1, evI_rng2, evI_enum, exs_nil, exs_cons, exs_frz, ex_asg, setT_n, ex_par, ex_put, ex_aug, augD_ok, ex_drop, ex_app, ex_ifs, ex_for, ex_while, ex_ret, ex_retN, ex_pass, unlock_nx, unlock_ret, lock_seq, lock_cell, lockO_ok, evI_cell, iterO_ok, unlN_ok, unlock_nxs, lock_rng1, evI_rng3, lock_rng3, lock_rng2, lock_enum, lock_text, cmp_lt, cmp_le, cmp_gt, cmp_ge, cmp_eqi, cmp_nei, cmp_eqb, cmp_neb, b_add, b_sub, bi_abs, bi_int, len_lst, len_tup, len_scr, ix_lst, ix_tup, ix_scr, at_0, at_1, at_2, at_3, isN_non, isN_int, isN_tup, isN_lst, isN_str, isN_bl, List.getElem?_cons_succ, List.getElem?_cons_zero, Option.map_some, List.set_cons_succ, List.set_cons_zero, hd, hn, ec, c0, c2, lenl, lenr, e, e1, e2, e3, ck, nn, Bool.not_true, e4, rngD_ok (small_i (show 0 ≤ 1 + drw ds k1 2 by omega) (by omega)), f1, du', t2]
    · have h1 : C5.tell c x' = some w := h1
      have h2 : f_check_clock [c.d, C5.d x'] [bxC ds k2] = .ex "BadClock" [("word", .str w)] [bxC ds k2] := h2
      rw [h1] at du
      have du' : f_Ldue [c.d, C5.d x'] [bxC ds k2] = .ok (.str w) [bxC ds k2] := du
      have t : exs b_law_2 [some (.scr (ns.map .int)), some (.ptr 0), some c.d, some (C5.d x'), y4, some (.str w), none, y7, y8, none] [bxC ds k2] = .ex "BadClock" [("word", .str w)] [some (.scr (ns.map .int)), some (.ptr 0), some c.d, some (C5.d x'), y4, some (.str w), none, y7, y8, none] [bxC ds k2] := by
        unfold b_law_2
        simp only [bind_ok, fl_ok, of_some, seq_nx, seq_ret, pick_t, pick_f, getV_ok, putE_ok, putS_ok, ev_var, ev_non, ev_bl, ev_int, ev_str, ev_glob, ev_bin, ev_cmp, negD_int, ev_neg, notD_bl, ev_not, ev_band, ev_bor, pickE_t, pickE_f, and_1, and_c, or_1, or_c, ev_chain, ev_isN, ev_notN, ev_ite, ev_call, ev_bi, ev_tup, ev_new, new_f, ev_dnewK, ev_dnewT, ev_ix, ev_sl, ev_frz, evs_nil, evs_cons, evN_n, intN_int, evN_s, evO_n, evO_s, evL_disp, ev_join, joinM_s, evL_sorted, evL_sortk, evL_list, ev_dcomp, ex_rem, cmp_eqd, cmp_ned, iterL_t, iterL_l, evL_lrng, evL_stp, evL_rev, revM_l, evL_cat, evL_srtd, ev_cnt, evL_keys, seq_lst, seq_tup, ex_putp, evL_cm, evI_seq, evI_rng1, evI_rng2, evI_enum, exs_nil, exs_cons, exs_frz, ex_asg, setT_n, ex_par, ex_put, ex_aug, augD_ok, ex_drop, ex_app, ex_ifs, ex_for, ex_while, ex_ret, ex_retN, ex_pass, unlock_nx, unlock_ret, lock_seq, lock_cell, lockO_ok, evI_cell, iterO_ok, unlN_ok, unlock_nxs, lock_rng1, evI_rng3, lock_rng3, lock_rng2, lock_enum, lock_text, cmp_lt, cmp_le, cmp_gt, cmp_ge, cmp_eqi, cmp_nei, cmp_eqb, cmp_neb, b_add, b_sub, bi_abs, bi_int, len_lst, len_tup, len_scr, ix_lst, ix_tup, ix_scr, at_0, at_1, at_2, at_3, isN_non, isN_int, isN_tup, isN_lst, isN_str, isN_bl, List.getElem?_cons_succ, List.getElem?_cons_zero, Option.map_some, List.set_cons_succ, List.set_cons_zero, h2]
        rfl
      have hx : xh (.retC "_law_same" f_h_Lsame [(.fld "word"), (.var 5)]) [some (.scr (ns.map .int)), some (.ptr 0), some c.d, some (C5.d x'), y4, some (.str w), none, y7, y8, none] [("word", .str w)] [bxC ds k2] = .ret (.bl true) [bxC ds k2] := by
        show (match f_h_Lsame [.str w, .str w] [bxC ds k2] with | .ok d S' => Fl.ret d S' | _ => .stuck) = _
        rw [r_hot]
      have t2 : ex (.try_ b_law_2 "BadClock" ["BadClock"] [] (some 6) ["word"] (.retC "_law_same" f_h_Lsame [(.fld "word"), (.var 5)])) [some (.scr (ns.map .int)), some (.ptr 0), some c.d, some (C5.d x'), y4, some (.str w), none, y7, y8, none] [bxC ds k2] = .ret (.bl true) [bxC ds k2] := by
        unfold ex
        rw [t]
        exact hx
      unfold c_law
      simp only [bind_ok, fl_ok, of_some, seq_nx, seq_ret, pick_t, pick_f, getV_ok, putE_ok, putS_ok, ev_var, ev_non, ev_bl, ev_int, ev_str, ev_glob, ev_bin, ev_cmp, negD_int, ev_neg, notD_bl, ev_not, ev_band, ev_bor, pickE_t, pickE_f, and_1, and_c, or_1, or_c, ev_chain, ev_isN, ev_notN, ev_ite, ev_call, ev_bi, ev_tup, ev_new, new_f, ev_dnewK, ev_dnewT, ev_ix, ev_sl, ev_frz, evs_nil, evs_cons, evN_n, intN_int, evN_s, evO_n, evO_s, evL_disp, ev_join, joinM_s, evL_sorted, evL_sortk, evL_list, ev_dcomp, ex_rem, cmp_eqd, cmp_ned, iterL_t, iterL_l, evL_lrng, evL_stp, evL_rev, revM_l, evL_cat, evL_srtd, ev_cnt, evL_keys, seq_lst, seq_tup, ex_putp, evL_cm, evI_seq, evI_rng1, evI_rng2, evI_enum, exs_nil, exs_cons, exs_frz, ex_asg, setT_n, ex_par, ex_put, ex_aug, augD_ok, ex_drop, ex_app, ex_ifs, ex_for, ex_while, ex_ret, ex_retN, ex_pass, unlock_nx, unlock_ret, lock_seq, lock_cell, lockO_ok, evI_cell, iterO_ok, unlN_ok, unlock_nxs, lock_rng1, evI_rng3, lock_rng3, lock_rng2, lock_enum, lock_text, cmp_lt, cmp_le, cmp_gt, cmp_ge, cmp_eqi, cmp_nei, cmp_eqb, cmp_neb, b_add, b_sub, bi_abs, bi_int, len_lst, len_tup, len_scr, ix_lst, ix_tup, ix_scr, at_0, at_1, at_2, at_3, isN_non, isN_int, isN_tup, isN_lst, isN_str, isN_bl, List.getElem?_cons_succ, List.getElem?_cons_zero, Option.map_some, List.set_cons_succ, List.set_cons_zero, hd, hn, ec, c0, c2, lenl, lenr, e, e1, e2, e3, ck, nn, Bool.not_true, e4, rngD_ok (small_i (show 0 ≤ 1 + drw ds k1 2 by omega) (by omega)), f1, du', t2]
end MI.K
namespace MI.K
open PySem PySem.Spec L2
def topS (i : Nat) : PySem.Stmt := PySem.Challenge.pw_homingtrue_k08_clocks_are_checked.main.body.getD i (.Pass ⟨0, 0, 0, 0⟩)
abbrev st_is_within : PySem.Stmt := topS 5
theorem sc_is_within : L2.FnScope ["value", "least", "most"] ["value", "least", "most"] (L2.defScope st_is_within) := ⟨rfl, rfl, rfl, by decide +kernel, rfl, by decide +kernel, by decide +kernel⟩
theorem ck_is_within : chkSs ["value", "least", "most"] (L2.defScope st_is_within) (fun _ => true) c_is_within (L2.defBody st_is_within) = true := by kernel_rfl
abbrev st_check_clock : PySem.Stmt := topS 6
theorem sc_check_clock : L2.FnScope ["club", "clock", "race", "loft", "begin", "end", "shown"] ["club", "clock"] (L2.defScope st_check_clock) := ⟨rfl, rfl, rfl, by decide +kernel, rfl, by decide +kernel, by decide +kernel⟩
theorem ck_check_clock : chkSs ["club", "clock", "race", "loft", "begin", "end", "shown"] (L2.defScope st_check_clock) (fun _ => true) c_check_clock (L2.defBody st_check_clock) = true := by kernel_rfl
abbrev st_Lcell : PySem.Stmt := topS 8
theorem sc_Lcell : L2.FnScope ["_law_script", "_law_k"] ["_law_script", "_law_k"] (L2.defScope st_Lcell) := ⟨rfl, rfl, rfl, by decide +kernel, rfl, by decide +kernel, by decide +kernel⟩
theorem ck_Lcell : chkSs ["_law_script", "_law_k"] (L2.defScope st_Lcell) (fun _ => true) c_Lcell (L2.defBody st_Lcell) = true := by kernel_rfl
abbrev st_Ldigits : PySem.Stmt := topS 9
theorem sc_Ldigits : L2.FnScope ["_law_script", "_law_first", "_law_last", "_law_digits_here", "_law_k", "_law_cell_here", "_law_turn", "_law_seed"] ["_law_script", "_law_first", "_law_last"] (L2.defScope st_Ldigits) := ⟨rfl, rfl, rfl, by decide +kernel, rfl, by decide +kernel, by decide +kernel⟩
theorem ck_Ldigits : chkSs ["_law_script", "_law_first", "_law_last", "_law_digits_here", "_law_k", "_law_cell_here", "_law_turn", "_law_seed"] (L2.defScope st_Ldigits) (fun _ => true) c_Ldigits (L2.defBody st_Ldigits) = true := by kernel_rfl
abbrev st_Ldraw : PySem.Stmt := topS 10
theorem sc_Ldraw : L2.FnScope ["_law_box", "_law_many", "_law_at"] ["_law_box", "_law_many"] (L2.defScope st_Ldraw) := ⟨rfl, rfl, rfl, by decide +kernel, rfl, by decide +kernel, by decide +kernel⟩
theorem ck_Ldraw : chkSs ["_law_box", "_law_many", "_law_at"] (L2.defScope st_Ldraw) (fun _ => true) c_Ldraw (L2.defBody st_Ldraw) = true := by kernel_rfl
abbrev st_Lsame : PySem.Stmt := topS 11
theorem sc_Lsame : L2.FnScope ["_law_actual", "_law_due_here", "_law_k"] ["_law_actual", "_law_due_here"] (L2.defScope st_Lsame) := ⟨rfl, rfl, rfl, by decide +kernel, rfl, by decide +kernel, by decide +kernel⟩
theorem ck_Lsame (g : Fn) : chkSs ["_law_actual", "_law_due_here", "_law_k"] (L2.defScope st_Lsame) (fun _ => true) (c_Lsame g) (L2.defBody st_Lsame) = true := by kernel_rfl
abbrev st_Lrun : PySem.Stmt := topS 12
theorem sc_Lrun : L2.FnScope ["_law_box", "_law_many", "_law_chars", "_law_text", "_law_k"] ["_law_box", "_law_many", "_law_chars"] (L2.defScope st_Lrun) := ⟨rfl, rfl, rfl, by decide +kernel, rfl, by decide +kernel, by decide +kernel⟩
theorem ck_Lrun : chkSs ["_law_box", "_law_many", "_law_chars", "_law_text", "_law_k"] (L2.defScope st_Lrun) (fun _ => true) c_Lrun (L2.defBody st_Lrun) = true := by kernel_rfl
abbrev st_Lword : PySem.Stmt := topS 13
theorem sc_Lword : L2.FnScope ["_law_box", "_law_taken", "_law_word_here", "_law_turn"] ["_law_box", "_law_taken"] (L2.defScope st_Lword) := ⟨rfl, rfl, rfl, by decide +kernel, rfl, by decide +kernel, by decide +kernel⟩
theorem ck_Lword : chkSs ["_law_box", "_law_taken", "_law_word_here", "_law_turn"] (L2.defScope st_Lword) (fun _ => true) c_Lword (L2.defBody st_Lword) = true := by kernel_rfl
abbrev st_Lnumber : PySem.Stmt := topS 14
theorem sc_Lnumber : L2.FnScope ["_law_box", "_law_size"] ["_law_box", "_law_size"] (L2.defScope st_Lnumber) := ⟨rfl, rfl, rfl, by decide +kernel, rfl, by decide +kernel, by decide +kernel⟩
theorem ck_Lnumber : chkSs ["_law_box", "_law_size"] (L2.defScope st_Lnumber) (fun _ => true) c_Lnumber (L2.defBody st_Lnumber) = true := by kernel_rfl
abbrev st_Lclub : PySem.Stmt := topS 15
theorem sc_Lclub : L2.FnScope ["_law_box", "_law_lofts", "_law_birds", "_law_races", "_law_names", "_law_rows", "_law_size", "_law_k", "_law_rings", "_law_places", "_law_ring", "_law_x", "_law_y", "_law_loft", "_law_start", "_law_close", "_law_dusk", "_law_dawn"] ["_law_box", "_law_lofts", "_law_birds", "_law_races"] (L2.defScope st_Lclub) := ⟨rfl, rfl, rfl, by decide +kernel, rfl, by decide +kernel, by decide +kernel⟩
theorem ck_Lclub : chkSs ["_law_box", "_law_lofts", "_law_birds", "_law_races", "_law_names", "_law_rows", "_law_size", "_law_k", "_law_rings", "_law_places", "_law_ring", "_law_x", "_law_y", "_law_loft", "_law_start", "_law_close", "_law_dusk", "_law_dawn"] (L2.defScope st_Lclub) (fun _ => true) c_Lclub (L2.defBody st_Lclub) = true := by kernel_rfl
abbrev st_Lclock : PySem.Stmt := topS 16
theorem sc_Lclock : L2.FnScope ["_law_box", "_law_club_here", "_law_race", "_law_loft", "_law_begin", "_law_end", "_law_drift", "_law_shown"] ["_law_box", "_law_club_here", "_law_race", "_law_loft"] (L2.defScope st_Lclock) := ⟨rfl, rfl, rfl, by decide +kernel, rfl, by decide +kernel, by decide +kernel⟩
theorem ck_Lclock : chkSs ["_law_box", "_law_club_here", "_law_race", "_law_loft", "_law_begin", "_law_end", "_law_drift", "_law_shown"] (L2.defScope st_Lclock) (fun _ => true) c_Lclock (L2.defBody st_Lclock) = true := by kernel_rfl
abbrev st_Lis_number : PySem.Stmt := topS 17
theorem sc_Lis_number : L2.FnScope ["_law_value", "_law_least", "_law_most"] ["_law_value", "_law_least", "_law_most"] (L2.defScope st_Lis_number) := ⟨rfl, rfl, rfl, by decide +kernel, rfl, by decide +kernel, by decide +kernel⟩
theorem ck_Lis_number : chkSs ["_law_value", "_law_least", "_law_most"] (L2.defScope st_Lis_number) (fun _ => true) c_Lis_number (L2.defBody st_Lis_number) = true := by kernel_rfl
abbrev st_Ldue : PySem.Stmt := topS 18
theorem sc_Ldue : L2.FnScope ["_law_club_here", "_law_clock_here"] ["_law_club_here", "_law_clock_here"] (L2.defScope st_Ldue) := ⟨rfl, rfl, rfl, by decide +kernel, rfl, by decide +kernel, by decide +kernel⟩
theorem ck_Ldue : chkSs ["_law_club_here", "_law_clock_here"] (L2.defScope st_Ldue) (fun _ => true) c_Ldue (L2.defBody st_Ldue) = true := by kernel_rfl
abbrev st_law : PySem.Stmt := topS 19
theorem sc_law : L2.FnScope ["_law_script", "_law_box", "_law_club_here", "_law_clock_here", "_law_turn", "_law_due_here", "wrong", "_law_k", "_law_values", "_law_told"] ["_law_script"] (L2.defScope st_law) := ⟨rfl, rfl, rfl, by decide +kernel, rfl, by decide +kernel, by decide +kernel⟩
theorem ck_law : chkSs ["_law_script", "_law_box", "_law_club_here", "_law_clock_here", "_law_turn", "_law_due_here", "wrong", "_law_k", "_law_values", "_law_told"] (L2.defScope st_law) (fun _ => true) c_law (L2.defBody st_law) = true := by kernel_rfl
theorem ckh_Lsame : chkQs ["_law_actual", "_law_due_here", "_law_k"] (L2.defScope st_Lsame) c_h_Lsame (L2.defBody st_Lsame) = true := by kernel_rfl
def xs0 : List Str := (["is_within", "check_clock", "_law_cell", "_law_digits", "_law_draw", "_law_same", "_law_run", "_law_word", "_law_number", "_law_club", "_law_clock", "_law_is_number", "_law_due", "law"] : List Str)
def fn0 : List He.DefD := ([dfn "is_within" st_is_within, dfn "check_clock" st_check_clock, dfn "_law_cell" st_Lcell, dfn "_law_digits" st_Ldigits, dfn "_law_draw" st_Ldraw, dfn "_law_same" st_Lsame, dfn "_law_run" st_Lrun, dfn "_law_word" st_Lword, dfn "_law_number" st_Lnumber, dfn "_law_club" st_Lclub, dfn "_law_clock" st_Lclock, dfn "_law_is_number" st_Lis_number, dfn "_law_due" st_Ldue, dfn "law" st_law] : List He.DefD)
def loose0 : List Str := (["is_within", "check_clock", "_law_cell", "_law_digits", "_law_draw", "_law_same", "_law_run", "_law_word", "_law_number", "_law_club", "_law_clock", "_law_is_number", "_law_due", "MINUTE", "RaceError", "BadClock"] : List Str)
abbrev R0 : PySem.W.OpenRow := PySem.W.OpenLaw.row PySem.Challenge.rw_homingtrue_k08_clocks_are_checked
def is0 : List (Str × Gv) := ([] : List (Str × Gv))
abbrev ki_BadClock : PySem.Stmt := initSt 0 (topS 2)
def xd0 : List XD := [xdOf "BadClock" "BadClock.__init__" ki_BadClock ["word"]]
def em0 : List (Str × Str × Bool) := [("BadClock", "BadClock", true)]
def tp0 : List (Str × List Int) := [("MINUTE", [0, 9999])]
abbrev F0 : Str := R0.prog.main.file
abbrev hk0 : PySem.W.Hook := hookX 6 F0 (fa0 xs0 is0) fn0 xd0 em0 tp0
def ob0 (s : PySem.W.SharedT) : AlX := obsXG 6 F0 (fa0 xs0 is0) fn0 xd0 em0 tp0 (HandSHeadRun.getT s)
theorem ob_eq0 (s : PySem.W.SharedT) : ob0 s = hk0.obs s.abs := obsXG_eq (HandSHeadRun.getT_eq s)
theorem run0 (w : World) : HandSHeadRun.RunEq R0 (PySem.W.view R0.prog [19]) hk0 ob0 4000 loose0 w := by
  intro os
  kernel_rfl
theorem gi_MINUTE : GDt is0 tp0 "MINUTE" (.con [(.int 0), (.int 9999)]) := .inr ⟨[0, 9999], by decide +kernel, rfl⟩
theorem facts {w : World} {K : PySem.W.Frag} {h : Heap} {mg : Str → Option Value} {f : Addr} (X : K.In h) (G : h.Ns mainGlobals mg) (hfa : mg ("law" : Str) = some (.ref f)) (cx : SaysX F0 (fa0 xs0 is0) fn0 xd0 em0 tp0 K) :
    ∃ fd : FuncData, (∀ (s : Shared) (v : Value), BindsTo s fd ⟨[v], []⟩ [("_law_script", v)]) ∧ ∀ base : Heap, K.In base → base.Ns mainGlobals mg → L2.FnOk R0.prog w K mg base (L2N.CX R0.prog w) 27 f fd ["_law_script"] (spOf K mg f_law) := by
  have c := cx.d
  have gx_BadClock : XcOk R0.prog K mg "BadClock" ["word"] := xc_at (st := ki_BadClock) X G (cx.x 0) rfl (by kernel_rfl) (by kernel_rfl) (by kernel_rfl) (by kernel_rfl) (fun _ dV _ _ _ _ _ _ _ _ vs hdv hl => match dV, hdv, vs, hl with | _, rfl, [_], _ => BindsTo.of_eq rfl)
  have ge_0 : ExmOk K mg "BadClock" "BadClock" true := SaysX.exm X G cx 0
  have gf_0 : FldOk K mg "BadClock" ["word"] := gx_BadClock.fld.mono (by decide)
  have hb := fact_free X G c
  have gd0 := SaysX.gd X G cx
  obtain ⟨fd_is_within, D_is_within⟩ := def_at (ps := ["value", "least", "most"]) (x := "is_within") (st := st_is_within) (i := 0) X G c rfl rfl (fun _ _ _ _ _ _ us hl => match us, hl with | [_, _, _], _ => rfl)
  obtain ⟨fd_check_clock, D_check_clock⟩ := def_at (ps := ["club", "clock"]) (x := "check_clock") (st := st_check_clock) (i := 1) X G c rfl rfl (fun _ _ _ _ _ _ us hl => match us, hl with | [_, _], _ => rfl)
  obtain ⟨fd_Lcell, D_Lcell⟩ := def_at (ps := ["_law_script", "_law_k"]) (x := "_law_cell") (st := st_Lcell) (i := 2) X G c rfl rfl (fun _ _ _ _ _ _ us hl => match us, hl with | [_, _], _ => rfl)
  obtain ⟨fd_Ldigits, D_Ldigits⟩ := def_at (ps := ["_law_script", "_law_first", "_law_last"]) (x := "_law_digits") (st := st_Ldigits) (i := 3) X G c rfl rfl (fun _ _ _ _ _ _ us hl => match us, hl with | [_, _, _], _ => rfl)
  obtain ⟨fd_Ldraw, D_Ldraw⟩ := def_at (ps := ["_law_box", "_law_many"]) (x := "_law_draw") (st := st_Ldraw) (i := 4) X G c rfl rfl (fun _ _ _ _ _ _ us hl => match us, hl with | [_, _], _ => rfl)
  obtain ⟨fd_Lsame, D_Lsame⟩ := def_at (ps := ["_law_actual", "_law_due_here"]) (x := "_law_same") (st := st_Lsame) (i := 5) X G c rfl rfl (fun _ _ _ _ _ _ us hl => match us, hl with | [_, _], _ => rfl)
  obtain ⟨fd_Lrun, D_Lrun⟩ := def_at (ps := ["_law_box", "_law_many", "_law_chars"]) (x := "_law_run") (st := st_Lrun) (i := 6) X G c rfl rfl (fun _ _ _ _ _ _ us hl => match us, hl with | [_, _, _], _ => rfl)
  obtain ⟨fd_Lword, D_Lword⟩ := def_at (ps := ["_law_box", "_law_taken"]) (x := "_law_word") (st := st_Lword) (i := 7) X G c rfl rfl (fun _ _ _ _ _ _ us hl => match us, hl with | [_, _], _ => rfl)
  obtain ⟨fd_Lnumber, D_Lnumber⟩ := def_at (ps := ["_law_box", "_law_size"]) (x := "_law_number") (st := st_Lnumber) (i := 8) X G c rfl rfl (fun _ _ _ _ _ _ us hl => match us, hl with | [_, _], _ => rfl)
  obtain ⟨fd_Lclub, D_Lclub⟩ := def_at (ps := ["_law_box", "_law_lofts", "_law_birds", "_law_races"]) (x := "_law_club") (st := st_Lclub) (i := 9) X G c rfl rfl (fun _ _ _ _ _ _ us hl => match us, hl with | [_, _, _, _], _ => rfl)
  obtain ⟨fd_Lclock, D_Lclock⟩ := def_at (ps := ["_law_box", "_law_club_here", "_law_race", "_law_loft"]) (x := "_law_clock") (st := st_Lclock) (i := 10) X G c rfl rfl (fun _ _ _ _ _ _ us hl => match us, hl with | [_, _, _, _], _ => rfl)
  obtain ⟨fd_Lis_number, D_Lis_number⟩ := def_at (ps := ["_law_value", "_law_least", "_law_most"]) (x := "_law_is_number") (st := st_Lis_number) (i := 11) X G c rfl rfl (fun _ _ _ _ _ _ us hl => match us, hl with | [_, _, _], _ => rfl)
  obtain ⟨fd_Ldue, D_Ldue⟩ := def_at (ps := ["_law_club_here", "_law_clock_here"]) (x := "_law_due") (st := st_Ldue) (i := 12) X G c rfl rfl (fun _ _ _ _ _ _ us hl => match us, hl with | [_, _], _ => rfl)
  obtain ⟨fd_law, D_law⟩ := def_at (ps := ["_law_script"]) (x := "law") (st := st_law) (i := 13) X G c rfl rfl (fun _ _ _ _ _ _ us hl => match us, hl with | [_], _ => rfl)
  have e := hfa.symm.trans D_law.mgf
  cases e
  refine ⟨fd_law, fun s v => L2.FunD.bindsA (ps := ["_law_script"]) D_law.fn (fun _ _ _ _ _ _ us hl => match us, hl with | [_], _ => rfl) s [v] rfl, fun base b1 b2 => ?_⟩
  have qh_Lsame : CalH R0.prog w K mg base 3 "_law_same" f_h_Lsame := def_okH D_Lsame sc_Lsame hb ckh_Lsame
  have q_is_within : CalOk R0.prog w K mg base 3 "is_within" f_is_within := def_ok D_is_within sc_is_within hb gd0 ck_is_within (by simp only [c_is_within, CSs.good, CS.good, CE.good, CEs.good, CO.good, CL.good, CI.good, gi_MINUTE, gx_BadClock, ge_0, gf_0, eachS, XH.ok, and_true, true_and])
  have u_is_within := q_is_within.up (show 3 ≤ 3 by decide)
  have q_check_clock : CalOk R0.prog w K mg base 6 "check_clock" f_check_clock := def_ok D_check_clock sc_check_clock hb gd0 ck_check_clock (by simp only [c_check_clock, CSs.good, CS.good, CE.good, CEs.good, CO.good, CL.good, CI.good, gi_MINUTE, gx_BadClock, ge_0, gf_0, eachS, XH.ok, u_is_within, and_true, true_and])
  have q_Lcell : CalOk R0.prog w K mg base 3 "_law_cell" f_Lcell := def_ok D_Lcell sc_Lcell hb gd0 ck_Lcell (by simp only [c_Lcell, CSs.good, CS.good, CE.good, CEs.good, CO.good, CL.good, CI.good, gi_MINUTE, gx_BadClock, ge_0, gf_0, eachS, XH.ok, and_true, true_and])
  have u_Lcell := q_Lcell.up (show 3 ≤ 3 by decide)
  have q_Ldigits : CalOk R0.prog w K mg base 6 "_law_digits" f_Ldigits := def_ok D_Ldigits sc_Ldigits hb gd0 ck_Ldigits (by simp only [c_Ldigits, b_Ldigits_1, b_Ldigits_2, b_Ldigits_3, CSs.good, CS.good, CE.good, CEs.good, CO.good, CL.good, CI.good, gi_MINUTE, gx_BadClock, ge_0, gf_0, eachS, XH.ok, u_Lcell, and_true, true_and])
  have q_Ldraw : CalOk R0.prog w K mg base 3 "_law_draw" f_Ldraw := def_ok D_Ldraw sc_Ldraw hb gd0 ck_Ldraw (by simp only [c_Ldraw, CSs.good, CS.good, CE.good, CEs.good, CO.good, CL.good, CI.good, gi_MINUTE, gx_BadClock, ge_0, gf_0, eachS, XH.ok, and_true, true_and])
  have q_Lsame : ∀ n, CalOk R0.prog w K mg base (0 + 3 * n) "_law_same" (f_Lsame n) := by
    intro n; induction n with
    | zero => exact stuck_ok D_Lsame
    | succ n ih =>
      exact (def_ok (lv := 0 + 3 * n) D_Lsame sc_Lsame hb gd0 (ck_Lsame (f_Lsame n)) (by simp only [c_Lsame, b_Lsame_1, CSs.good, CS.good, CE.good, CEs.good, CO.good, CL.good, CI.good, gi_MINUTE, gx_BadClock, ge_0, gf_0, eachS, XH.ok, ih, and_true, true_and])).up (by omega)
  have q_Lsame : CalOk R0.prog w K mg base 24 "_law_same" (f_Lsame 8) := (q_Lsame 8).up (by decide)
  have u_Ldraw := q_Ldraw.up (show 3 ≤ 3 by decide)
  have q_Lrun : CalOk R0.prog w K mg base 6 "_law_run" f_Lrun := def_ok D_Lrun sc_Lrun hb gd0 ck_Lrun (by simp only [c_Lrun, b_Lrun_1, CSs.good, CS.good, CE.good, CEs.good, CO.good, CL.good, CI.good, gi_MINUTE, gx_BadClock, ge_0, gf_0, eachS, XH.ok, u_Ldraw, and_true, true_and])
  have u_Ldraw := q_Ldraw.up (show 3 ≤ 6 by decide)
  have u_Lrun := q_Lrun.up (show 6 ≤ 6 by decide)
  have q_Lword : CalOk R0.prog w K mg base 9 "_law_word" f_Lword := def_ok D_Lword sc_Lword hb gd0 ck_Lword (by simp only [c_Lword, b_Lword_1, CSs.good, CS.good, CE.good, CEs.good, CO.good, CL.good, CI.good, gi_MINUTE, gx_BadClock, ge_0, gf_0, eachS, XH.ok, u_Ldraw, u_Lrun, and_true, true_and])
  have u_Ldraw := q_Ldraw.up (show 3 ≤ 3 by decide)
  have q_Lnumber : CalOk R0.prog w K mg base 6 "_law_number" f_Lnumber := def_ok D_Lnumber sc_Lnumber hb gd0 ck_Lnumber (by simp only [c_Lnumber, CSs.good, CS.good, CE.good, CEs.good, CO.good, CL.good, CI.good, gi_MINUTE, gx_BadClock, ge_0, gf_0, eachS, XH.ok, u_Ldraw, and_true, true_and])
  have u_Ldraw := q_Ldraw.up (show 3 ≤ 9 by decide)
  have u_Lword := q_Lword.up (show 9 ≤ 9 by decide)
  have u_Lnumber := q_Lnumber.up (show 6 ≤ 9 by decide)
  have q_Lclub : CalOk R0.prog w K mg base 12 "_law_club" f_Lclub := def_ok D_Lclub sc_Lclub hb gd0 ck_Lclub (by simp only [c_Lclub, b_Lclub_1, b_Lclub_2, e_Lclub_1, b_Lclub_3, CSs.good, CS.good, CE.good, CEs.good, CO.good, CL.good, CI.good, gi_MINUTE, gx_BadClock, ge_0, gf_0, eachS, XH.ok, u_Ldraw, u_Lword, u_Lnumber, and_true, true_and])
  have u_Ldraw := q_Ldraw.up (show 3 ≤ 3 by decide)
  have q_Lclock : CalOk R0.prog w K mg base 6 "_law_clock" f_Lclock := def_ok D_Lclock sc_Lclock hb gd0 ck_Lclock (by simp only [c_Lclock, CSs.good, CS.good, CE.good, CEs.good, CO.good, CL.good, CI.good, gi_MINUTE, gx_BadClock, ge_0, gf_0, eachS, XH.ok, u_Ldraw, and_true, true_and])
  have q_Lis_number : CalOk R0.prog w K mg base 3 "_law_is_number" f_Lis_number := def_ok D_Lis_number sc_Lis_number hb gd0 ck_Lis_number (by simp only [c_Lis_number, CSs.good, CS.good, CE.good, CEs.good, CO.good, CL.good, CI.good, gi_MINUTE, gx_BadClock, ge_0, gf_0, eachS, XH.ok, and_true, true_and])
  have u_Lis_number := q_Lis_number.up (show 3 ≤ 3 by decide)
  have q_Ldue : CalOk R0.prog w K mg base 6 "_law_due" f_Ldue := def_ok D_Ldue sc_Ldue hb gd0 ck_Ldue (by simp only [c_Ldue, CSs.good, CS.good, CE.good, CEs.good, CO.good, CL.good, CI.good, gi_MINUTE, gx_BadClock, ge_0, gf_0, eachS, XH.ok, u_Lis_number, and_true, true_and])
  have uh_Lsame := qh_Lsame.up (show 3 ≤ 24 by decide)
  have u_check_clock := q_check_clock.up (show 6 ≤ 24 by decide)
  have u_Ldigits := q_Ldigits.up (show 6 ≤ 24 by decide)
  have u_Ldraw := q_Ldraw.up (show 3 ≤ 24 by decide)
  have u_Lsame := q_Lsame.up (show 24 ≤ 24 by decide)
  have u_Lclub := q_Lclub.up (show 12 ≤ 24 by decide)
  have u_Lclock := q_Lclock.up (show 6 ≤ 24 by decide)
  have u_Ldue := q_Ldue.up (show 6 ≤ 24 by decide)
  exact body_ok D_law.fn sc_law hb gd0 ck_law (by simp only [c_law, b_law_1, b_law_2, CSs.good, CS.good, CE.good, CEs.good, CO.good, CL.good, CI.good, gi_MINUTE, gx_BadClock, ge_0, gf_0, eachS, XH.ok, u_check_clock, u_Ldigits, u_Ldraw, u_Lsame, u_Lclub, u_Lclock, u_Ldue, uh_Lsame, and_true, true_and])
end MI.K
open PySem PySem.W PySem.Calls PyProof.Rows
set_option maxHeartbeats 0 in
theorem PySem.Challenge.cw_homingtrue_k08_clocks_are_checked_holds : PySem.Challenge.rw_homingtrue_k08_clocks_are_checked.Holds := by
  w_on; o_law
  refine HandSHeadRun.head_any (r := MI.K.R0) (q := view MI.K.R0.prog [19]) (H := MI.K.hk0) (ob := MI.K.ob0) (M := 4000) (loose := MI.K.loose0) (d := HandSHeadRun.topDef MI.K.R0.prog 19) (kwd := []) MI.K.ob_eq0
    (by kernel_rfl) (fun s => by kernel_rfl) MI.K.run0 (by kernel_rfl) (by kernel_rfl) (by kernel_rfl) (by rfl) (by first | assumption | decide +kernel) (by decide +kernel) ⟨rfl, rfl, rfl, rfl, rfl, by decide +kernel⟩ ?hw ?hc
  case hw => w_witness2
  case hc =>
    refine MI.walk_mi (l := PySem.Challenge.rw_homingtrue_k08_clocks_are_checked) (k := 27) (x := "_law_script") (g := MI.K.f_law) rfl (by kernel_rfl) ⟨rfl, by decide, by decide⟩ MI.K.law_true ?F
    intro w mg fa h Y G hmg0
    obtain ⟨K, KX, c⟩ := Y
    have hmg : mg ("law" : PySem.Str) = some (.ref fa) := by
      have e : (HandSHeadRun.topDef MI.K.R0.prog 19).name = ("law" : PySem.Str) := by kernel_rfl
      rw [← e]
      exact hmg0
    obtain ⟨fd, hb, hF⟩ := MI.K.facts (w := w) KX G hmg c
    exact ⟨K, fd, KX, hb, hF⟩
