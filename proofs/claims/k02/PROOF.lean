import PyProof.Rows.All
import Wide.All
import OpenK.AllK
import Wide.FinOn
import HandS.ForMost
import HandS.DictComp
import HandS.DictTup
import HandS.Wide
import HandS.TupAny
import HandS.IsInst
import HandS.Flow
import HandS.FStr
import HandS.Conv
import HandS.Deep
import HandS.Codes
import HandS.WordsExc
import HandS.ForExc
import KE.SortData
import KE.SortKeyHeap
import KE.KStateDown
import HandS.Defaults
import HandS.Head0
import HandS.Head1
import HandS.Head2
import HandS.HeadEnd
import HandS.HeadHook1
import HandS.HeadHook2
import KE.KDictCopyH
import HandS.Dict
import HandS.Text
import HandS.SortKw
import PySem.Challenge.RW_homingtrue_k02_tokens_of_lines
set_option Elab.async false
set_option linter.all false
set_option maxRecDepth 100000
set_option maxHeartbeats 4000000
/-! MI1: a small deterministic reading of Python over data trees and a store of cells -/
namespace MI
open PySem PySem.Spec L2
/-- data: frozen trees; con: a tuple of the module's text; scr: the script; ptr: a cell of the store -/
inductive D where
  | non | bl (b : Bool) | int (i : Int) | str (s : Str)
  | tup (ds : List D) | lst (ds : List D) | con (ds : List D) | scr (ds : List D) | ptr (n : Nat)
  deriving Inhabited
inductive Cell where
  | dead
  | lst (ds : List D)
  | lkl (ds : List D)
  | dK (kvs : List (Key × D))
  | dT (kvs : List (List Key × D))
  | lkd (kvs : List (Key × D))
  | ins (c : Str) (fs : List (Str × D))
  deriving Inhabited
abbrev Store := List Cell
abbrev MEnv := List (Option D)
inductive Rs (α : Type) where
  | ok (a : α) (S : Store)
  | ex (c : Str) (fs : List (Str × D)) (S : Store)
  | stuck
def Rs.bind {α β : Type} (r : Rs α) (f : α → Store → Rs β) : Rs β :=
  match r with
  | .ok a S => f a S
  | .ex c fs S => .ex c fs S
  | .stuck => .stuck
def Rs.of {α : Type} (o : Option α) (S : Store) : Rs α :=
  match o with
  | some a => .ok a S
  | none => .stuck
abbrev Fn := List D → Store → Rs D
/-! ### data -/
mutual
/-- no pointer, depth at most n -/
def D.fit : D → Nat → Bool
  | .non, _ => true
  | .bl _, _ => true
  | .int _, _ => true
  | .str s, _ => PySem.PyData.strOk s
  | .tup ds, n => (match n with | 0 => false | n + 1 => fitL ds n)
  | .lst ds, n => (match n with | 0 => false | n + 1 => fitL ds n)
  | .con _, _ => false
  | .scr _, _ => false
  | .ptr _, _ => false
def fitL : List D → Nat → Bool
  | [], _ => true
  | d :: ds, n => d.fit n && fitL ds n
end
mutual
/-- every pointer below n -/
def D.lt : D → Nat → Bool
  | .non, _ => true
  | .bl _, _ => true
  | .int _, _ => true
  | .str _, _ => true
  | .tup ds, n => ltL ds n
  | .lst ds, n => ltL ds n
  | .con ds, n => ltL ds n
  | .scr ds, n => ltL ds n
  | .ptr m, n => decide (m < n)
def ltL : List D → Nat → Bool
  | [], _ => true
  | d :: ds, n => d.lt n && ltL ds n
end
mutual
def D.py : D → PyData
  | .non => .none
  | .bl b => .bool b
  | .int i => .int i
  | .str s => .str s
  | .tup ds => .tuple (pyL ds)
  | .lst ds => .list (pyL ds)
  | .con ds => .tuple (pyL ds)
  | .scr ds => .list (pyL ds)
  | .ptr _ => .none
def pyL : List D → List PyData
  | [] => []
  | d :: ds => d.py :: pyL ds
end
mutual
/-- Python's ==, where it is plain: none where a bool meets an int -/
def eqD : D → D → Option Bool
  | .non, y => (match y with | .non => some true | .ptr _ => none | .con _ => none | .scr _ => none | _ => some false)
  | .bl a, y => (match y with | .bl b => some (a == b) | .int _ => none | .ptr _ => none | .con _ => none | .scr _ => none | _ => some false)
  | .int a, y => (match y with | .int b => some (a == b) | .bl _ => none | .ptr _ => none | .con _ => none | .scr _ => none | _ => some false)
  | .str a, y => (match y with | .str b => some (a == b) | .ptr _ => none | .con _ => none | .scr _ => none | _ => some false)
  | .tup xs, y => (match y with | .tup ys => eqL xs ys | .ptr _ => none | .con _ => none | .scr _ => none | _ => some false)
  | .lst xs, y => (match y with | .lst ys => eqL xs ys | .ptr _ => none | .con _ => none | .scr _ => none | _ => some false)
  | .con _, _ => none
  | .scr _, _ => none
  | .ptr _, _ => none
def eqL : List D → List D → Option Bool
  | [], ys => (match ys with | [] => some true | _ :: _ => some false)
  | x :: xs, ys => (match ys with
    | [] => some false
    | y :: ys => (match eqD x y with
      | some b => (match eqL xs ys with | some c => some (b && c) | none => none)
      | none => none))
end
def flatD : D → Bool
  | .non => true
  | .bl _ => true
  | .int _ => true
  | .str _ => true
  | _ => false
/-- x == y: both without pointers -/
def eqv (x y : D) : Option Bool := if (flatD x && flatD y) || (x.fit 50 && y.fit 50) then eqD x y else none
def toKey : D → Option Key
  | .int i => some (.inl i)
  | .str s => some (.inr s)
  | _ => none
def toKeys : List D → Option (List Key)
  | [] => some []
  | d :: ds => (match toKey d, toKeys ds with | some k, some ks => some (k :: ks) | _, _ => none)
def kD : Key → D
  | .inl i => .int i
  | .inr s => .str s
section
variable {κ : Type} [DecidableEq κ]
def valD (kvs : List (κ × D)) (k : κ) : Option D := (kvs.find? fun kv => decide (kv.1 = k)).map (·.2)
def putD (kvs : List (κ × D)) (k : κ) (v : D) : List (κ × D) :=
  if (kvs.any fun kv => decide (kv.1 = k)) = true then kvs.map (fun kv => if kv.1 = k then (kv.1, v) else kv) else kvs ++ [(k, v)]
end
/-! ### reading -/
/-- the items of what is a list or a tuple -/
def seqOf (d : D) (S : Store) : Option (List D) :=
  match d with
  | .lst ds => some ds
  | .tup ds => some ds
  | .con ds => some ds
  | .scr ds => some ds
  | .ptr n => (match S[n]? with
    | some (.lst ds) => some ds
    | some (.lkl ds) => some ds
    | _ => none)
  | _ => none
def dPut (d k v : D) (S : Store) : Option Store :=
  match d with
  | .ptr n => if v.lt n then (match S[n]? with
    | some (.dK kvs) => if kvs.length < 1000000 then (toKey k).map (fun k => S.set n (.dK (putD kvs k v))) else none
    | some (.dT kvs) => if kvs.length < 1000000 then (match k with | .tup ks => (toKeys ks).map (fun k => S.set n (.dT (putD kvs k v))) | _ => none) else none
    | _ => none) else none
  | _ => none
inductive BOp where | add | sub | mul | fdiv | mod | pow
  deriving DecidableEq
inductive COp where | eq | ne | lt | le | gt | ge | inn | notin
  deriving DecidableEq
inductive BFn where | abs | max2 | min2 | int | len | tuple | sum | any | all | ord | str | max1 | isList | isTuple | isBool | isStr | isInt | isLT
  deriving DecidableEq
def sm64 (i : Int) : Bool := decide (i.natAbs < 18446744073709551616)
def mulOk (i j : Int) : Bool := sm64 i || sm64 j || decide (i.natAbs.log2 + j.natAbs.log2 < 1000000)
def divOk (j : Int) : Bool := decide (j.natAbs.log2 < 9000)
def binD (op : BOp) (x y : D) (S : Store) : Option D :=
  match op with
  | .add => (match x with
    | .int i => (match y with | .int j => some (.int (i + j)) | _ => none)
    | .str a => (match y with | .str b => if a.length + b.length ≤ 1000000 then some (.str (a ++ b)) else none | _ => none)
    | .tup a => (match y with | .tup b => if a.length + b.length ≤ 1000000 then some (.tup (a ++ b)) else none | _ => none)
    | .lst a => (match y with
      | .lst b => if a.length + b.length ≤ 1000000 then some (.lst (a ++ b)) else none
      | .ptr m => (match S[m]? with | some (.lst b) => if a.length + b.length ≤ 1000000 then some (.lst (a ++ b)) else none | _ => none)
      | _ => none)
    | .ptr n => (match S[n]? with
      | some (.lst a) => (match y with
        | .lst b => if a.length + b.length ≤ 1000000 then some (.lst (a ++ b)) else none
        | .ptr m => (match S[m]? with | some (.lst b) => if a.length + b.length ≤ 1000000 then some (.lst (a ++ b)) else none | _ => none)
        | _ => none)
      | _ => none)
    | _ => none)
  | .sub => (match x with | .int i => (match y with | .int j => some (.int (i - j)) | _ => none) | _ => none)
  | .mul => (match x with
    | .int i => (match y with | .int j => if mulOk i j then some (.int (i * j)) else none | _ => none)
    | .str a => (match y with | .int j => if a.length ≤ 1000 ∧ -1000 ≤ j ∧ j ≤ 1000 then some (.str (Txt.mul a j)) else none | _ => none)
    | .lst a => (match y with | .int j => if a.length * j.toNat ≤ 1000000 ∧ -1000 ≤ j ∧ j ≤ 1000 then some (.lst (List.replicate j.toNat a).flatten) else none | _ => none)
    | _ => none)
  | .fdiv => (match x with | .int i => (match y with | .int j => if divOk j then (if 0 < j then some (.int (i / j)) else if j < 0 then some (.int (i.fdiv j)) else none) else none | _ => none) | _ => none)
  | .mod => (match x with | .int i => (match y with | .int j => if 0 < j then some (.int (i % j)) else none | _ => none) | _ => none)
  | .pow => (match x with | .int i => (match y with | .int j => if 0 ≤ j ∧ j ≤ 1000 ∧ i.natAbs < 18446744073709551616 then some (.int (i ^ j.toNat)) else none | _ => none) | _ => none)
def dGet (d k : D) (S : Store) : Option (Option D) :=
  match d with
  | .ptr n => (match S[n]? with
    | some (.dK kvs) => (toKey k).map (valD kvs)
    | some (.lkd kvs) => (toKey k).map (valD kvs)
    | some (.dT kvs) => (match k with | .tup ks => (toKeys ks).map (valD kvs) | _ => none)
    | _ => none)
  | _ => none
def isDict (d : D) (S : Store) : Bool :=
  match d with
  | .ptr n => (match S[n]? with
    | some (.dK _) => true
    | some (.lkd _) => true
    | some (.dT _) => true
    | _ => false)
  | _ => false
def isLst : D → Bool
  | .lst _ => true
  | .ptr _ => true
  | _ => false
/-- y in xs, item by item -/
def memD (x : D) : List D → Option Bool
  | [] => some false
  | y :: ys => (match eqD y x with
    | some b => (match memD x ys with | some c => some (b || c) | none => none)
    | none => none)
def cmpI (op : COp) (i j : Int) : Option Bool :=
  match op with
  | .lt => some (decide (i < j))
  | .le => some (decide (i ≤ j))
  | .gt => some (decide (j < i))
  | .ge => some (decide (j ≤ i))
  | _ => none
def strIn (x y : Str) : Bool := !(Builtin.Str.occurrences y x 0 y.length 1).isEmpty
def cmpD (op : COp) (x y : D) (S : Store) : Option Bool :=
  match op with
  | .eq => eqv x y
  | .ne => (eqv x y).map (!·)
  | .inn => if isDict y S then (dGet y x S).map (·.isSome) else (match y with
    | .str s => (match x with | .str c => some (strIn c s) | _ => none)
    | _ => (match seqOf y S with | some ds => if (flatD x && ds.all flatD) || (isLst y && (x.fit 50 && fitL ds 50)) then memD x ds else none | none => none))
  | .notin => if isDict y S then (dGet y x S).map (fun o => !o.isSome) else (match y with
    | .str s => (match x with | .str c => some (!strIn c s) | _ => none)
    | _ => (match seqOf y S with | some ds => if (flatD x && ds.all flatD) || (isLst y && (x.fit 50 && fitL ds 50)) then (memD x ds).map (!·) else none | none => none))
  | op => (match x with | .int i => (match y with | .int j => cmpI op i j | _ => none) | _ => none)
def isNon (d : D) (S : Store) : Option Bool :=
  match d with
  | .non => some true
  | .ptr n => (match S[n]? with
    | some .dead => none
    | some _ => some false
    | none => none)
  | _ => some false
def asInts : List D → Option (List Int)
  | [] => some []
  | d :: ds => (match d with | .int i => (asInts ds).map (i :: ·) | _ => none)
def asStrs : List D → Option (List Str)
  | [] => some []
  | d :: ds => (match d with | .str i => (asStrs ds).map (i :: ·) | _ => none)
/-- the texts, one behind the other -/
def joinD (s : Str) (o : Option (List D)) : Option D :=
  match o with
  | none => none
  | some ds => (match asStrs ds with
    | none => none
    | some ys => if (ys.map (·.length)).sum + ys.length * s.length ≤ 1000000 then some (.str (Txt.join s ys)) else none)
def asBls : List D → Option (List Bool)
  | [] => some []
  | d :: ds => (match d with | .bl i => (asBls ds).map (i :: ·) | _ => none)
def lenD (d : D) (S : Store) : Option Nat :=
  match d with
  | .str s => if s.length ≤ 1000000 then some s.length else none
  | .ptr n => (match S[n]? with
    | some (.dK kvs) => some kvs.length
    | some (.lkd kvs) => some kvs.length
    | _ => (seqOf (.ptr n) S).map List.length)
  | d => (seqOf d S).map List.length
/-- the kind of a datum: 0 none, 1 bool, 2 int, 3 str, 4 tuple, 5 list -/
def kindD (d : D) (S : Store) : Option Nat :=
  match d with
  | .non => some 0
  | .bl _ => some 1
  | .int _ => some 2
  | .str _ => some 3
  | .tup _ => some 4
  | .lst _ => some 5
  | .con _ => none
  | .scr _ => none
  | .ptr n => (match S[n]? with
    | some (.lst _) => some 5
    | _ => none)
def bi1 (f : BFn) (x : D) (S : Store) : Option D :=
  match f with
  | .abs => (match x with | .int i => some (.int (if i < 0 then -i else i)) | _ => none)
  | .int => (match x with | .int i => some (.int i) | .bl b => some (.int (if b then 1 else 0)) | .str a => (if a.length ≤ 640 then (match PySem.intText? a with | some n => some (.int n) | none => none) else none) | _ => none)
  | .str => (match x with | .int i => if i.natAbs.log2 < 1920 then some (.str (toString i)) else none | _ => none)
  | .ord => (match x with | .str a => if a.length = 1 then some (.int (a.cps.getD 0 0 : Nat)) else none | _ => none)
  | .len => (lenD x S).map fun (n : Nat) => D.int (n : Int)
  | .tuple => (match x with | .con _ => none | x => (seqOf x S).map .tup)
  | .sum => (seqOf x S).bind fun ds => (match x with | .tup _ => none | .con _ => none | _ => (asInts ds).map fun ns => .int ns.sum)
  | .any => (seqOf x S).bind fun ds => (match x with | .tup _ => none | .con _ => none | _ => (asBls ds).map fun bs => .bl (bs.any id))
  | .all => (seqOf x S).bind fun ds => (match x with | .tup _ => none | .con _ => none | _ => (asBls ds).map fun bs => .bl (bs.all id))
  | .max1 => (seqOf x S).bind fun ds => (match x with | .tup _ => none | .con _ => none | _ => (asInts ds).bind fun ns => (ns.max?).map .int)
  | .isList => (kindD x S).map fun k => .bl (k == 5)
  | .isTuple => (kindD x S).map fun k => .bl (k == 4)
  | .isBool => (kindD x S).map fun k => .bl (k == 1)
  | .isStr => (kindD x S).map fun k => .bl (k == 3)
  | .isInt => (kindD x S).map fun k => .bl (k == 1 || k == 2)
  | _ => none
def bi2 (f : BFn) (x y : D) : Option D :=
  match f with
  | .max2 => (match x with | .int i => (match y with | .int j => some (.int (if j > i then j else i)) | _ => none) | _ => none)
  | .min2 => (match x with | .int i => (match y with | .int j => some (.int (if j < i then j else i)) | _ => none) | _ => none)
  | _ => none
def biD (f : BFn) (ds : List D) (S : Store) : Option D :=
  match ds with
  | [x] => bi1 f x S
  | [x, y] => bi2 f x y
  | _ => none
def ixD (x i : D) (S : Store) : Option D :=
  if isDict x S then (match dGet x i S with | some (some v) => some v | _ => none) else match i with
  | .int k => (match x with
    | .str z => if z.length ≤ 1000000 then (atI z.cps.toList k).map fun c => .str ⟨#[c]⟩ else none
    | x => (seqOf x S).bind fun ds => atI ds k)
  | _ => none
def cutD (xs : List D) (lo hi : Option Int) : List D := (xs.drop (HT.sIx xs.length 0 lo)).take (HT.sIx xs.length xs.length hi - HT.sIx xs.length 0 lo)
/-- a slice of a tuple, a list or a text -/
def slD (x : D) (lo hi : Option Int) (S : Store) : Option D :=
  match x with
  | .tup ds => some (.tup (cutD ds lo hi))
  | .lst ds => some (.lst (cutD ds lo hi))
  | .ptr n => (match S[n]? with | some (.lst ds) => some (.lst (cutD ds lo hi)) | some (.lkl ds) => some (.lst (cutD ds lo hi)) | _ => none)
  | .str z => if z.length ≤ 1000000 then some (.str (Txt.slice z lo hi)) else none
  | _ => none
/-! ### the compact text -/
inductive Tg where
  | name (i : Nat)
  | tup (is : List Nat)
mutual
inductive CE where
  | var (i : Nat)
  | frz (i : Nat)
  | non | bl (b : Bool) | int (i : Int) | str (s : Str)
  | glob (x : Str) (d : D)
  | bin (op : BOp) (a b : CE)
  | neg (a : CE) | not (a : CE)
  | band (es : CEs) | bor (es : CEs)
  | cmp (op : COp) (a b : CE)
  | chain (op op' : COp) (a b c : CE)
  | isN (a : CE) | notN (a : CE)
  | ite (c a b : CE)
  | call (x : Str) (g : Fn) (es : CEs)
  | bi (f : BFn) (es : CEs)
  | tup (es : CEs)
  | new (m : Bool) (l : CL)
  | dnew (t : Bool)
  | dcomp (own : List (Str × Nat)) (t : Tg) (it : CI) (c : CO) (k v : CE)
  | dgetd (a b c : CE)
  | join (a b : CE)
  | ix (a b : CE)
  | sl (a : CE) (lo hi : CO)
inductive CO where
  | none
  | some (e : CE)
inductive CEs where
  | nil
  | cons (e : CE) (es : CEs)
inductive CL where
  | disp (es : CEs)
  | comp (own : List (Str × Nat)) (t : Tg) (it : CI) (c : CO) (elt : CE)
  | sorted (e : CE)
  | sortk (e : CE) (x : Str) (g : Fn)
  | list (e : CE)
  | slice (e : CE) (lo hi : CO)
  | cat (a b : CE)
  | keys (e : CE)
inductive CI where
  | seq (e : CE)
  | rng1 (a : CE)
  | rng2 (a b : CE)
  | enum (e : CE)
  | text (e : CE)
  | cell (i : Nat)
  | cellE (e : CE)
end
/-! ### its reading -/
/-- a place that a name, or an item of it, tells -/
def pathD : CE → MEnv → Store → Option D
  | .var i, ρ, _ => (match ρ[i]? with | some o => o | none => none)
  | .ix a b, ρ, S => (match b with | .int j => (pathD a ρ S).bind fun x => ixD x (.int j) S | _ => none)
  | _, _, _ => none
def setT (t : Tg) (d : D) (ρ : MEnv) : Option MEnv :=
  match t with
  | .name i => some (ρ.set i (some d))
  | .tup is => (match d with
    | .tup ds => if ds.length = is.length then some ((is.zip ds).foldl (fun ρ p => ρ.set p.1 (some p.2)) ρ) else none
    | _ => none)
def wipeE (ρ : MEnv) : List Nat → MEnv
  | [] => ρ
  | v :: vs => (wipeE ρ vs).set v none
/-- a cell that is walked is locked meanwhile -/
def unl (l : Option (Nat × Cell)) (S : Store) : Option Store :=
  match l with
  | none => some S
  | some (n, c) => (match S[n]? with
    | some (.lkl _) => some (S.set n c)
    | some (.lkd _) => some (S.set n c)
    | _ => none)
def lockC (d : D) (S : Store) : Store × Option (Nat × Cell) :=
  match d with
  | .ptr n => (match S[n]? with
    | some (.lst ds) => (S.set n (.lkl ds), some (n, .lst ds))
    | some (.dK kvs) => (S.set n (.lkd kvs), some (n, .dK kvs))
    | _ => (S, none))
  | _ => (S, none)
def iterD (d : D) : Option (List D) :=
  match d with
  | .lst ds => some ds
  | .tup ds => some ds
  | .con ds => some ds
  | _ => none
def iterL (d : D) : Option (List D) := match d with | .lst ds => some ds | _ => none
def iterC (d : D) (S : Store) : Option (List D) :=
  match d with
  | .ptr n => (match S[n]? with
    | some (.lkl ds) => some ds
    | some (.lkd kvs) => some (kvs.map fun kv => kD kv.1)
    | _ => none)
  | _ => none
def iterCL (d : D) (S : Store) : Option (List D) :=
  match d with
  | .ptr n => (match S[n]? with
    | some (.lkl ds) => some ds
    | _ => none)
  | _ => none
def rangeD (lo hi : Int) : List D := (List.range (hi - lo).toNat).map fun i => .int (lo + (i : Nat))
def small62 (i : Int) : Bool := decide (-(2 ^ 60) ≤ i ∧ i < 2 ^ 60)
def enumD (ds : List D) : List D := (List.range ds.length).zip ds |>.map fun p => .tup [.int (p.1 : Nat), p.2]
/-- the comprehension's loop -/
def compL (f : D → Store → Rs (Option D)) : List D → List D → Store → Rs (List D)
  | [], acc, S => .ok acc S
  | d :: ds, acc, S => (f d S).bind fun o S1 => (match o with
    | some y => if acc.length < 1000000 then compL f ds (acc ++ [y]) S1 else .stuck
    | none => compL f ds acc S1)
def compD (f : D → Store → Rs (Option (Key × D))) : List D → List (Key × D) → Store → Rs (List (Key × D))
  | [], acc, S => .ok acc S
  | d :: ds, acc, S => (f d S).bind fun o S1 => (match o with
    | some y => if acc.length < 1000000 then compD f ds (putD acc y.1 y.2) S1 else .stuck
    | none => compD f ds acc S1)
/-- no exception leaves a comprehension -/
def Rs.nox {α : Type} (r : Rs α) : Rs α := match r with | .ex _ _ _ => .stuck | r => r
def mapK (g : Fn) : List D → Store → Option (List D × Store)
  | [], S => some ([], S)
  | d :: ds, S => (match g [d] S with
    | .ok k S' => (match mapK g ds S' with | some (ks, S2) => some (k :: ks, S2) | none => none)
    | _ => none)
def alikeAllD (ds : List D) : Bool := ds.all fun a => ds.all fun b => PySem.W.alike a.py b.py
def sortableD (ds : List D) : Bool :=
  (ds.all fun d => match d with | .tup (_ :: _) => true | _ => false) || (ds.all fun d => match d with | .non => false | .tup _ => false | _ => true)
def leD (a b : D) : Bool := PySem.W.dataLe false D.py a b
def newL (m : Bool) (ds : List D) (S : Store) : Rs D :=
  if m then (if ltL ds S.length then .ok (.ptr S.length) (S ++ [.lst ds]) else .stuck) else .ok (.lst ds) S
def lockI (it : CI) (ρ : MEnv) (S : Store) : Store × Option (Nat × Cell) :=
  match it with
  | .cell i => (match ρ[i]? with
    | some (some d) => lockC d S
    | _ => (S, none))
  | .cellE e => (match pathD e ρ S with
    | some d => lockC d S
    | none => (S, none))
  | _ => (S, none)
mutual
def ev : CE → MEnv → Store → Rs D
  | .var i, ρ, S => (match ρ[i]? with | some (some d) => .ok d S | _ => .stuck)
  | .frz i, ρ, S => (match ρ[i]? with
    | some (some (.ptr n)) => (match S[n]? with | some (.lst ds) => .ok (.lst ds) (S.set n .dead) | _ => .stuck)
    | _ => .stuck)
  | .non, _, S => .ok .non S
  | .bl b, _, S => .ok (.bl b) S
  | .int i, _, S => .ok (.int i) S
  | .str s, _, S => .ok (.str s) S
  | .glob _ d, _, S => .ok d S
  | .bin op a b, ρ, S => (ev a ρ S).bind fun x S => (ev b ρ S).bind fun y S => Rs.of (binD op x y S) S
  | .neg a, ρ, S => (ev a ρ S).bind fun x S => (match x with | .int i => .ok (.int (-i)) S | _ => .stuck)
  | .not a, ρ, S => (ev a ρ S).bind fun x S => (match x with | .bl b => .ok (.bl (!b)) S | _ => .stuck)
  | .band es, ρ, S => evAnd es ρ S
  | .bor es, ρ, S => evOr es ρ S
  | .cmp op a b, ρ, S => (ev a ρ S).bind fun x S => (ev b ρ S).bind fun y S => Rs.of ((cmpD op x y S).map .bl) S
  | .chain op op' a b c, ρ, S => (ev a ρ S).bind fun x S => (ev b ρ S).bind fun y S => (match cmpD op x y S with
    | some true => (ev c ρ S).bind fun z S => Rs.of ((cmpD op' y z S).map .bl) S
    | some false => .ok (.bl false) S
    | none => .stuck)
  | .isN a, ρ, S => (ev a ρ S).bind fun x S => Rs.of ((isNon x S).map .bl) S
  | .notN a, ρ, S => (ev a ρ S).bind fun x S => Rs.of ((isNon x S).map fun b => .bl (!b)) S
  | .ite c a b, ρ, S => (ev c ρ S).bind fun x S => (match x with | .bl true => ev a ρ S | .bl false => ev b ρ S | _ => .stuck)
  | .call _ g es, ρ, S => (evs es ρ S).bind fun ds S => g ds S
  | .bi f es, ρ, S => (evs es ρ S).bind fun ds S => Rs.of (biD f ds S) S
  | .tup es, ρ, S => (evs es ρ S).bind fun ds S => .ok (.tup ds) S
  | .new m l, ρ, S => (evL l ρ S).bind fun ds S => newL m ds S
  | .dnew t, _, S => .ok (.ptr S.length) (S ++ [if t then .dT [] else .dK []])
  | .dcomp own t it c k v, ρ, S => (evI it ρ (lockI it ρ S).1).bind fun items S1 =>
    (compD (fun d S => match setT t d (wipeE ρ (own.map (·.2))) with
      | some ρ1 => ((evO c ρ1 S).bind fun b S => (match b with
        | some (.bl false) => .ok none S
        | some (.bl true) => (ev k ρ1 S).bind fun x S => (ev v ρ1 S).bind fun y S => if y.lt S.length then Rs.of ((toKey x).map fun x => some (x, y)) S else .stuck
        | some _ => .stuck
        | none => (ev k ρ1 S).bind fun x S => (ev v ρ1 S).bind fun y S => if y.lt S.length then Rs.of ((toKey x).map fun x => some (x, y)) S else .stuck)).nox
      | none => .stuck) items [] S1).bind fun kvs S2 => (match unl (lockI it ρ S).2 S2 with | some S3 => .ok (.ptr S3.length) (S3 ++ [.dK kvs]) | none => .stuck)
  | .dgetd a b c, ρ, S => (ev a ρ S).bind fun x S => if isDict x S then (ev b ρ S).bind fun y S => (ev c ρ S).bind fun z S => (match dGet x y S with | some o => .ok (o.getD z) S | none => .stuck) else .stuck
  | .join a b, ρ, S => (ev a ρ S).bind fun x S => (match x with | .str s => (ev b ρ S).bind fun y S => Rs.of (joinD s (seqOf y S)) S | _ => .stuck)
  | .ix a b, ρ, S => (ev a ρ S).bind fun x S => (ev b ρ S).bind fun y S => Rs.of (ixD x y S) S
  | .sl a lo hi, ρ, S => (ev a ρ S).bind fun x S => (evN lo ρ S).bind fun l S => (evN hi ρ S).bind fun h S => Rs.of (slD x l h S) S
def evO : CO → MEnv → Store → Rs (Option D)
  | .none, _, S => .ok none S
  | .some e, ρ, S => (ev e ρ S).bind fun x S => .ok (some x) S
/-- an optional whole number -/
def evN : CO → MEnv → Store → Rs (Option Int)
  | .none, _, S => .ok none S
  | .some e, ρ, S => (ev e ρ S).bind fun x S => (match x with | .int i => .ok (some i) S | _ => .stuck)
def evs : CEs → MEnv → Store → Rs (List D)
  | .nil, _, S => .ok [] S
  | .cons e es, ρ, S => (ev e ρ S).bind fun x S => (evs es ρ S).bind fun xs S => .ok (x :: xs) S
def evAnd : CEs → MEnv → Store → Rs D
  | .nil, _, _ => .stuck
  | .cons e es, ρ, S => (match es with
    | .nil => (ev e ρ S).bind fun x S => (match x with | .bl b => .ok (.bl b) S | _ => .stuck)
    | es => (ev e ρ S).bind fun x S => (match x with | .bl true => evAnd es ρ S | .bl false => .ok (.bl false) S | _ => .stuck))
def evOr : CEs → MEnv → Store → Rs D
  | .nil, _, _ => .stuck
  | .cons e es, ρ, S => (match es with
    | .nil => (ev e ρ S).bind fun x S => (match x with | .bl b => .ok (.bl b) S | _ => .stuck)
    | es => (ev e ρ S).bind fun x S => (match x with | .bl false => evOr es ρ S | .bl true => .ok (.bl true) S | _ => .stuck))
def evL : CL → MEnv → Store → Rs (List D)
  | .disp es, ρ, S => evs es ρ S
  | .comp own t it c e, ρ, S => (evI it ρ (lockI it ρ S).1).bind fun items S1 =>
    (compL (fun d S => match setT t d (wipeE ρ (own.map (·.2))) with
      | some ρ1 => ((evO c ρ1 S).bind fun b S => (match b with
        | some (.bl false) => .ok none S
        | some (.bl true) => (ev e ρ1 S).bind fun x S => .ok (some x) S
        | some _ => .stuck
        | none => (ev e ρ1 S).bind fun x S => .ok (some x) S)).nox
      | none => .stuck) items [] S1).bind fun ds S2 => (match unl (lockI it ρ S).2 S2 with | some S3 => .ok ds S3 | none => .stuck)
  | .sorted e, ρ, S => (ev e ρ S).bind fun x S => (match x with
    | .tup _ => .stuck
    | .con _ => .stuck
    | x => (match seqOf x S with
      | some ds => if fitL ds 50 && alikeAllD ds && sortableD ds then .ok (ds.mergeSort leD) S else .stuck
      | none => .stuck))
  | .sortk e _ g, ρ, S => (ev e ρ S).bind fun x S => (match x with
    | .tup _ => .stuck
    | .con _ => .stuck
    | x => (match seqOf x S with
      | some ds => (match mapK g ds S with
        | some (ks, S2) => if fitL ks 50 && alikeAllD ks && sortableD ks then .ok (((ks.zip ds).mergeSort fun a b => leD a.1 b.1).map (·.2)) S2 else .stuck
        | none => .stuck)
      | none => .stuck))
  | .list e, ρ, S => (ev e ρ S).bind fun x S => Rs.of (seqOf x S) S
  | .slice e lo hi, ρ, S => (ev e ρ S).bind fun x S => (evN lo ρ S).bind fun l S => (evN hi ρ S).bind fun h S => (match x with
      | .tup _ => .stuck
      | .con _ => .stuck
      | x => Rs.of ((seqOf x S).map fun ds => cutD ds l h) S)
  | .cat a b, ρ, S => (ev a ρ S).bind fun x S => (ev b ρ S).bind fun y S => (match x, y with
    | .tup _, _ => .stuck
    | .con _, _ => .stuck
    | _, .tup _ => .stuck
    | _, .con _ => .stuck
    | x, y => (match seqOf x S, seqOf y S with
      | some xs, some ys => if xs.length + ys.length ≤ 1000000 then .ok (xs ++ ys) S else .stuck
      | _, _ => .stuck))
  | .keys e, ρ, S => (ev e ρ S).bind fun x S => (match x with
    | .ptr n => (match S[n]? with
      | some (.dK kvs) => .ok (kvs.map fun kv => kD kv.1) S
      | some (.dT kvs) => .ok (kvs.map fun kv => .tup (kv.1.map kD)) S
      | _ => .stuck)
    | _ => .stuck)
def evI : CI → MEnv → Store → Rs (List D)
  | .seq e, ρ, S => (ev e ρ S).bind fun x S => Rs.of (iterD x) S
  | .rng1 a, ρ, S => (ev a ρ S).bind fun x S => (match x with
    | .int j => if small62 j then .ok (rangeD 0 j) S else .stuck
    | _ => .stuck)
  | .rng2 a b, ρ, S => (ev a ρ S).bind fun x S => (ev b ρ S).bind fun y S => (match x, y with
    | .int i, .int j => if small62 i && small62 j then .ok (rangeD i j) S else .stuck
    | _, _ => .stuck)
  | .enum e, ρ, S => (ev e ρ S).bind fun x S => Rs.of ((iterL x).map enumD) S
  | .text e, ρ, S => (ev e ρ S).bind fun x S => (match x with | .str z => .ok (z.cps.toList.map fun c => .str ⟨#[c]⟩) S | _ => .stuck)
  | .cell i, ρ, S => (match ρ[i]? with
    | some (some d) => Rs.of (iterC d S) S
    | _ => .stuck)
  | .cellE e, ρ, S => (ev e ρ S).bind fun x S => Rs.of (iterCL x S) S
end
/-! ### statements -/
inductive Fl where
  | nx (ρ : MEnv) (S : Store)
  | ret (d : D) (S : Store)
  | ex (c : Str) (fs : List (Str × D)) (ρ : MEnv) (S : Store)
  | stuck
def Rs.fl {α : Type} (r : Rs α) (ρ : MEnv) (f : α → Store → Fl) : Fl :=
  match r with
  | .ok a S => f a S
  | .ex c fs S => .ex c fs ρ S
  | .stuck => .stuck
mutual
inductive CS where
  | asg (t : Tg) (e : CE)
  | par (i j : Nat) (a b : CE)
  | put (o i e : CE)
  | putp (o i p j a b : CE)
  | aug (i : Nat) (e : CE)
  | drop (e : CE)
  | app (o e : CE)
  | rem (o e : CE)
  | ifs (c : CE) (a b : CSs)
  | for_ (t : Tg) (it : CI) (b : CSs)
  | while_ (fuel : Nat) (c : CE) (b : CSs)
  | ret (e : CE)
  | retN
  | pass
  | fail
inductive CSs where
  | nil
  | cons (s : CS) (ss : CSs)
  | frz (i : Nat) (ss : CSs)
end
def forL (f : D → MEnv → Store → Fl) : List D → MEnv → Store → Fl
  | [], ρ, S => .nx ρ S
  | d :: ds, ρ, S => (match f d ρ S with
    | .nx ρ' S' => forL f ds ρ' S'
    | r => r)
def whileL (c : MEnv → Store → Rs D) (f : MEnv → Store → Fl) : Nat → MEnv → Store → Fl
  | 0, _, _ => .stuck
  | n + 1, ρ, S => (c ρ S).fl ρ fun x S => (match x with
    | .bl true => (match f ρ S with
      | .nx ρ' S' => whileL c f n ρ' S'
      | r => r)
    | .bl false => .nx ρ S
    | _ => .stuck)
def Fl.unlock (l : Option (Nat × Cell)) : Fl → Fl
  | .nx ρ S => (match unl l S with | some S => .nx ρ S | none => .stuck)
  | .ret d S => (match unl l S with | some S => .ret d S | none => .stuck)
  | .ex c fs ρ S => .ex c fs ρ S
  | .stuck => .stuck
def putL (o i d : D) (S : Store) : Option Store :=
  match o with
  | .ptr n => if d.lt n then (match S[n]? with
    | some (.lst ds) => (match i with | .int k => (ixN ds.length k).map fun j => S.set n (.lst (ds.set j d)) | _ => none)
    | _ => none) else none
  | _ => none
def appL (o d : D) (S : Store) : Option Store :=
  match o with
  | .ptr n => if d.lt n then (match S[n]? with
    | some (.lst ds) => if ds.length < 1000000 then some (S.set n (.lst (ds ++ [d]))) else none
    | _ => none) else none
  | _ => none
def isCellL (o : D) (S : Store) : Bool :=
  match o with
  | .ptr n => (match S[n]? with
    | some (.lst _) => true
    | _ => false)
  | _ => false
/-- the place of the first item that is ==, none where there is none or == is not plain -/
def findD (x : D) : List D → Option Nat
  | [] => none
  | y :: ys => (match eqD y x with
    | some true => some 0
    | some false => (findD x ys).map (· + 1)
    | none => none)
def remL (o d : D) (S : Store) : Option Store :=
  match o with
  | .ptr n => (match S[n]? with
    | some (.lst ds) => if d.fit 50 && fitL ds 50 then (findD d ds).map fun j => S.set n (.lst (ds.eraseIdx j)) else none
    | _ => none)
  | _ => none
mutual
def ex : CS → MEnv → Store → Fl
  | .asg t e, ρ, S => (ev e ρ S).fl ρ fun d S => (match setT t d ρ with | some ρ' => .nx ρ' S | none => .stuck)
  | .par i j a b, ρ, S => (ev a ρ S).fl ρ fun x S => (ev b ρ S).fl ρ fun y S => .nx ((ρ.set i (some x)).set j (some y)) S
  | .put o i e, ρ, S => (ev e ρ S).fl ρ fun d S => (ev o ρ S).fl ρ fun x S => (ev i ρ S).fl ρ fun k S => (match (if isDict x S then dPut x k d S else putL x k d S) with | some S' => .nx ρ S' | none => .stuck)
  | .putp o i p j a b, ρ, S => (ev a ρ S).fl ρ fun d S => (ev b ρ S).fl ρ fun d2 S => (ev o ρ S).fl ρ fun x S => (ev i ρ S).fl ρ fun k S => (match (if isDict x S then dPut x k d S else putL x k d S) with
    | some S => (ev p ρ S).fl ρ fun x S => (ev j ρ S).fl ρ fun k S => (match (if isDict x S then dPut x k d2 S else putL x k d2 S) with | some S' => .nx ρ S' | none => .stuck)
    | none => .stuck)
  | .aug i e, ρ, S => (match ρ[i]? with
    | some (some (.int x)) => (ev e ρ S).fl ρ fun d S => (match d with | .int y => .nx (ρ.set i (some (.int (x + y)))) S | _ => .stuck)
    | _ => .stuck)
  | .drop e, ρ, S => (ev e ρ S).fl ρ fun _ S => .nx ρ S
  | .app o e, ρ, S => (ev o ρ S).fl ρ fun x S => if isCellL x S then (ev e ρ S).fl ρ fun d S => (match appL x d S with | some S' => .nx ρ S' | none => .stuck) else .stuck
  | .rem o e, ρ, S => (ev o ρ S).fl ρ fun x S => if isCellL x S then (ev e ρ S).fl ρ fun d S => (match remL x d S with | some S' => .nx ρ S' | none => .stuck) else .stuck
  | .ifs c a b, ρ, S => (ev c ρ S).fl ρ fun x S => (match x with | .bl true => exs a ρ S | .bl false => exs b ρ S | _ => .stuck)
  | .for_ t it b, ρ, S => ((evI it ρ (lockI it ρ S).1).fl ρ fun items S => forL (fun d ρ S => match setT t d ρ with | some ρ' => exs b ρ' S | none => .stuck) items ρ S).unlock (lockI it ρ S).2
  | .while_ n c b, ρ, S => whileL (ev c) (exs b) n ρ S
  | .ret e, ρ, S => (ev e ρ S).fl ρ fun d S => .ret d S
  | .retN, _, S => .ret .non S
  | .pass, ρ, S => .nx ρ S
  | .fail, _, _ => .stuck
def exs : CSs → MEnv → Store → Fl
  | .nil, ρ, S => .nx ρ S
  | .cons s ss, ρ, S => (match ex s ρ S with
    | .nx ρ' S' => exs ss ρ' S'
    | r => r)
  | .frz i ss, ρ, S => (match ρ[i]? with
    | some (some (.ptr n)) => (match S[n]? with | some (.lst ds) => exs ss (ρ.set i (some (.lst ds))) (S.set n .dead) | _ => .stuck)
    | _ => .stuck)
end
/-- what a call hands back: cells made in it are dropped, but for one that is handed back itself -/
def expo (n : Nat) (d : D) (S : Store) : Rs D :=
  if d.lt n then .ok d (S.take n) else
  (match d with
    | .ptr m => (match S[m]? with
      | some (.lst ds) => if ltL ds n then .ok (.ptr n) (S.take n ++ [.lst ds]) else .stuck
      | some (.dK kvs) => if kvs.all (fun kv => kv.2.lt n) then .ok (.ptr n) (S.take n ++ [.dK kvs]) else .stuck
      | some (.dT kvs) => if kvs.all (fun kv => kv.2.lt n) then .ok (.ptr n) (S.take n ++ [.dT kvs]) else .stuck
      | _ => .stuck)
    | _ => .stuck)
def fnOf (arity slots : Nat) (b : CSs) : Fn := fun ds S =>
  if ds.length = arity then
    (match exs b (ds.map some ++ List.replicate (slots - arity) none) S with
      | .nx _ S' => expo S.length .non S'
      | .ret d S' => expo S.length d S'
      | .ex c fs _ S' => if fs.all (fun f => f.2.lt S.length) then .ex c fs (S'.take S.length) else .stuck
      | .stuck => .stuck)
  else .stuck
end MI
namespace MI
open PySem PySem.Spec L2
abbrev Rho := List (Option Addr)
abbrev noH : Hp := fun _ => none
/-- no tuple -/
def nTup : HO → Bool
  | .tup _ => false
  | _ => true
abbrev NT := {o : HO // nTup o = true}
section
variable (K : PySem.W.Frag) (hid : List Addr) (ρ : Rho) (H : Hp)
/-- the script -/
def RdC (a : Addr) (xs : List V) : Prop := SqL K noH a xs ∨ ∃ o, H a = some (.frz o (.lst xs)) ∧ some a ∉ ρ ∧ a ∉ hid
mutual
inductive Rep : V → D → Prop
  | non : Rep .non .non
  | bl (b : Bool) : Rep (.bl b) (.bl b)
  | int (i : Int) : Rep (.int i) (.int i)
  | str (s : Str) : Rep (.str s) (.str s)
  | tup {a : Addr} {xs : List V} {ds : List D} : H a = some (.tup xs) → some a ∉ ρ → a ∉ hid → RepL xs ds → Rep (.ref a) (.tup ds)
  | lst {a : Addr} {xs : List V} {ds : List D} : H a = some (.lst xs) → some a ∉ ρ → a ∉ hid → RepL xs ds → Rep (.ref a) (.lst ds)
  | con {a : Addr} {xs : List V} {ds : List D} : SqT K noH a xs → RepL xs ds → Rep (.ref a) (.con ds)
  | scr {a : Addr} {xs : List V} {ds : List D} : RdC K hid ρ H a xs → RepL xs ds → Rep (.ref a) (.scr ds)
  | ptr {v : V} {n : Nat} : n < ρ.length → (∀ a, ρ[n]? = some (some a) → v = .ref a) → Rep v (.ptr n)
inductive RepL : List V → List D → Prop
  | nil : RepL [] []
  | cons {v : V} {vs : List V} {d : D} {ds : List D} : Rep v d → RepL vs ds → RepL (v :: vs) (d :: ds)
end
def RepKV {κ : Type} (ks : List (κ × V)) (kvs : List (κ × D)) : Prop := Paired (fun p q => p.1 = q.1 ∧ Rep K hid ρ H p.2 q.2) ks kvs
/-- all else stands -/
structure Ext (ρ : Rho) (H : Hp) (ρ' : Rho) (H' : Hp) : Prop where
  len : ρ.length ≤ ρ'.length
  slot : ∀ (n : Nat), n < ρ.length → ρ'[n]? = ρ[n]? ∨ ρ'[n]? = some none
  keep : ∀ b o, H b = some o → some b ∉ ρ → H' b = some o ∧ some b ∉ ρ'
  frz : ∀ b o u, H b = some (.frz o u) → H' b = some (.frz o u)
def RepC (mg : Str → Option Value) (n : Nat) (a : Addr) : Cell → Prop
  | .dead => False
  | .lst ds => ltL ds n = true ∧ ∃ xs, H a = some (.lst xs) ∧ RepL K hid ρ H xs ds
  | .lkl ds => ltL ds n = true ∧ ∃ xs o, H a = some (.frz o (.lst xs)) ∧ RepL K hid ρ H xs ds
  | .dK kvs => (∀ kv ∈ kvs, kv.2.lt n = true) ∧ ∃ ks, H a = some (.dK ks) ∧ RepKV K hid ρ H ks kvs
  | .dT kvs => (∀ kv ∈ kvs, kv.2.lt n = true) ∧ ∃ ks, H a = some (.dT ks) ∧ RepKV K hid ρ H ks kvs
  | .lkd kvs => (∀ kv ∈ kvs, kv.2.lt n = true) ∧ ∃ ks o, H a = some (.frz o (.dK ks)) ∧ RepKV K hid ρ H ks kvs
  | .ins c fs => (∀ kv ∈ fs, kv.2.lt n = true) ∧ ∃ C dx gs, H a = some (.ins C dx gs) ∧ mg c = some (.ref C) ∧ RepKV K hid ρ H gs fs
structure RelS (mg : Str → Option Value) (S : Store) : Prop where
  len : ρ.length = S.length
  nd : ∀ (n m : Nat) (a : Addr), ρ[n]? = some (some a) → ρ[m]? = some (some a) → n = m
  cells : ∀ (n : Nat) (c : Cell), S[n]? = some c → (c = .dead ∧ ρ[n]? = some none) ∨ ∃ a, ρ[n]? = some (some a) ∧ RepC K hid ρ H mg n a c
  hidd : ∀ a ∈ hid, (∃ o : NT, H a = some o.1) ∧ some a ∉ ρ
structure RelE (σ : St) (env : MEnv) : Prop where
  len : σ.length = env.length
  at_ : ∀ (i : Nat) (d : D), env[i]? = some (some d) → ∃ v, σ[i]? = some (some v) ∧ Rep K hid ρ H v d
end
section
variable {K : PySem.W.Frag} {mg : Str → Option Value} {hid hid' : List Addr} {ρ ρ' ρ'' ρ1 : Rho} {H H' H'' H1 : Hp} {S : Store} {v x : V} {d : D} {ds : List D} {xs : List V} {a b : Addr} {n : Nat}
theorem Ext.refl : Ext ρ H ρ H := ⟨Nat.le_refl _, fun _ _ => .inl rfl, fun _ _ h1 h2 => ⟨h1, h2⟩, fun _ _ _ h => h⟩
theorem Ext.trans (e : Ext ρ H ρ' H') (f : Ext ρ' H' ρ'' H'') : Ext ρ H ρ'' H'' :=
  ⟨Nat.le_trans e.len f.len, fun n hn => by
    rcases f.slot n (Nat.lt_of_lt_of_le hn e.len) with q | q
    · rw [q]; exact e.slot n hn
    · exact .inr q, fun b o h1 h2 => by
    obtain ⟨h3, h4⟩ := e.keep b o h1 h2
    exact f.keep b o h3 h4, fun b o u h => f.frz b o u (e.frz b o u h)⟩
theorem Ext.same (s : Same H H') : Ext ρ H ρ H' := ⟨Nat.le_refl _, fun _ _ => .inl rfl, fun b o h1 h2 => ⟨s b o h1, h2⟩, fun b o u h => s b _ h⟩
theorem same_new {p : Addr} {o : HO} (h : H p = none) : Same H (upd H p o) := fun b u e => by
  rw [upd_ne (ne_of_none e h)]; exact e
/-- what data lean on is handed over -/
structure Cv (hid : List Addr) (ρ : Rho) (H : Hp) (hid' : List Addr) (ρ' : Rho) (H' : Hp) : Prop where
  len : ρ.length ≤ ρ'.length
  slot : ∀ (n : Nat), n < ρ.length → ρ'[n]? = ρ[n]? ∨ ρ'[n]? = some none
  keep : ∀ b o, H b = some o → some b ∉ ρ → b ∉ hid → H' b = some o ∧ some b ∉ ρ' ∧ b ∉ hid'
mutual
theorem Rep.conv (e : Cv hid ρ H hid' ρ' H') : ∀ (d : D) {v : V}, Rep K hid ρ H v d → Rep K hid' ρ' H' v d
  | .non, _, h => by cases h; exact .non
  | .bl b, _, h => by cases h; exact .bl b
  | .int b, _, h => by cases h; exact .int b
  | .str b, _, h => by cases h; exact .str b
  | .tup ds, _, h => by
    cases h with
    | tup h1 h2 h3 h4 =>
      obtain ⟨q1, q2, q3⟩ := e.keep _ _ h1 h2 h3
      exact .tup q1 q2 q3 (RepL.conv e ds h4)
  | .lst ds, _, h => by
    cases h with
    | lst h1 h2 h3 h4 =>
      obtain ⟨q1, q2, q3⟩ := e.keep _ _ h1 h2 h3
      exact .lst q1 q2 q3 (RepL.conv e ds h4)
  | .con ds, _, h => by
    cases h with
    | con h1 h4 => exact .con h1 (RepL.conv e ds h4)
  | .scr ds, _, h => by
    cases h with
    | scr h1 h4 =>
      refine .scr ?_ (RepL.conv e ds h4)
      rcases h1 with h | ⟨o, p1, p2, p3⟩
      · exact .inl h
      · obtain ⟨q1, q2, q3⟩ := e.keep _ _ p1 p2 p3
        exact .inr ⟨o, q1, q2, q3⟩
  | .ptr n, v, h => by
    cases h with
    | ptr h1 h2 =>
      refine .ptr (Nat.lt_of_lt_of_le h1 e.len) fun a ha => ?_
      rcases e.slot n h1 with q | q
      · rw [q] at ha; exact h2 a ha
      · rw [q] at ha; cases ha
theorem RepL.conv (e : Cv hid ρ H hid' ρ' H') : ∀ (ds : List D) {vs : List V}, RepL K hid ρ H vs ds → RepL K hid' ρ' H' vs ds
  | [], _, h => by cases h; exact .nil
  | d :: ds, _, h => by
    cases h with
    | cons h1 h2 => exact .cons (Rep.conv e d h1) (RepL.conv e ds h2)
end
theorem Ext.cv (e : Ext ρ H ρ' H') : Cv hid ρ H hid ρ' H' := ⟨e.len, e.slot, fun b o h1 h2 h3 => let ⟨q1, q2⟩ := e.keep b o h1 h2; ⟨q1, q2, h3⟩⟩
theorem Cv.show_ (s : ∀ b, b ∈ hid' → b ∈ hid) : Cv hid ρ H hid' ρ H := ⟨Nat.le_refl _, fun _ _ => .inl rfl, fun b o h1 h2 h3 => ⟨h1, h2, fun z => h3 (s b z)⟩⟩
theorem Cv.hide (hn : H b = none) : Cv hid ρ H (b :: hid) ρ H := ⟨Nat.le_refl _, fun _ _ => .inl rfl, fun c o h1 h2 h3 => ⟨h1, h2, fun z => (List.mem_cons.mp z).elim (fun q => by rw [q, hn] at h1; cases h1) h3⟩⟩
theorem Cv.turn {p : Addr} {o : HO} : Cv (p :: hid) ρ H (p :: hid) ρ (upd H p o) := ⟨Nat.le_refl _, fun _ _ => .inl rfl, fun c u h1 h2 h3 => ⟨by
  have hc : c ≠ p := fun z => h3 (by rw [z]; exact List.mem_cons_self)
  rw [upd_ne hc]; exact h1, h2, h3⟩⟩
theorem Rep.mono {d : D} {v : V} (h : Rep K hid ρ H v d) (e : Ext ρ H ρ' H') : Rep K hid ρ' H' v d := Rep.conv e.cv d h
theorem RepL.mono {ds : List D} {v : List V} (h : RepL K hid ρ H v ds) (e : Ext ρ H ρ' H') : RepL K hid ρ' H' v ds := RepL.conv e.cv ds h
theorem RepKV.imp {κ : Type} {ks : List (κ × V)} {kvs : List (κ × D)} (f : ∀ (d : D) (v : V), Rep K hid ρ H v d → Rep K hid' ρ' H' v d) (h : RepKV K hid ρ H ks kvs) : RepKV K hid' ρ' H' ks kvs :=
  Paired.mapP h fun _ _ q => ⟨q.1, f _ _ q.2⟩
/-- a cell's own object stands as it stood -/
theorem RepC.imp {c : Cell} (ha : ∀ o, H a = some o → H' a = some o) (f : ∀ (d : D) (v : V), Rep K hid ρ H v d → Rep K hid' ρ' H' v d) (fl : ∀ (ds : List D) (vs : List V), RepL K hid ρ H vs ds → RepL K hid' ρ' H' vs ds)
    (h : RepC K hid ρ H mg n a c) : RepC K hid' ρ' H' mg n a c := by
  cases c with
  | dead => exact h
  | lst ds => obtain ⟨l, xs, e, r⟩ := h; exact ⟨l, xs, ha _ e, fl _ _ r⟩
  | lkl ds => obtain ⟨l, xs, o, e, r⟩ := h; exact ⟨l, xs, o, ha _ e, fl _ _ r⟩
  | dK ds => obtain ⟨l, xs, e, r⟩ := h; exact ⟨l, xs, ha _ e, r.imp f⟩
  | dT ds => obtain ⟨l, xs, e, r⟩ := h; exact ⟨l, xs, ha _ e, r.imp f⟩
  | lkd ds => obtain ⟨l, xs, o, e, r⟩ := h; exact ⟨l, xs, o, ha _ e, r.imp f⟩
  | ins c fs => obtain ⟨l, C, dx, gs, e, m, r⟩ := h; exact ⟨l, C, dx, gs, ha _ e, m, r.imp f⟩
theorem RepC.there {c : Cell} (h : RepC K hid ρ H mg n a c) : ∃ o, H a = some o := by
  cases c with
  | dead => cases h
  | lst ds => obtain ⟨l, xs, e, r⟩ := h; exact ⟨_, e⟩
  | lkl ds => obtain ⟨l, xs, o, e, r⟩ := h; exact ⟨_, e⟩
  | dK ds => obtain ⟨l, xs, e, r⟩ := h; exact ⟨_, e⟩
  | dT ds => obtain ⟨l, xs, e, r⟩ := h; exact ⟨_, e⟩
  | lkd ds => obtain ⟨l, xs, o, e, r⟩ := h; exact ⟨_, e⟩
  | ins c fs => obtain ⟨l, C, dx, gs, e, m, r⟩ := h; exact ⟨_, e⟩
theorem RelE.mono {σ : St} {env : MEnv} (e : Ext ρ H ρ' H') (h : RelE K hid ρ H σ env) : RelE K hid ρ' H' σ env :=
  ⟨h.len, fun i d hd => let ⟨v, q, r⟩ := h.at_ i d hd; ⟨v, q, r.mono e⟩⟩
/-- a tracked address of ρ -/
theorem RelS.mem (R : RelS K hid ρ H mg S) (h : some a ∈ ρ) : ∃ o, H a = some o := by
  obtain ⟨n, hn, e⟩ := List.getElem_of_mem h
  have e' : ρ[n]? = some (some a) := by rw [List.getElem?_eq_getElem hn, e]
  have hs : n < S.length := by rw [← R.len]; exact hn
  rcases R.cells n _ (List.getElem?_eq_getElem hs) with ⟨_, q⟩ | ⟨b, q, rc⟩
  · rw [e'] at q; cases q
  · rw [e'] at q; cases q; exact rc.there
theorem RelS.fresh (R : RelS K hid ρ H mg S) (h : H a = none) : some a ∉ ρ ∧ a ∉ hid := by
  refine ⟨fun z => ?_, fun z => ?_⟩
  · obtain ⟨o, e⟩ := R.mem z; rw [h] at e; cases e
  · obtain ⟨⟨o, e⟩, _⟩ := R.hidd a z; rw [h] at e; cases e
theorem RelS.same (s : Same H H') (R : RelS K hid ρ H mg S) : RelS K hid ρ H' mg S :=
  ⟨R.len, R.nd, fun n c e => (R.cells n c e).imp id fun ⟨a, q, r⟩ => ⟨a, q, r.imp (fun o h => s a o h) (fun _ _ z => z.mono (Ext.same s)) fun _ _ z => z.mono (Ext.same s)⟩,
    fun a h => let ⟨⟨o, e⟩, q⟩ := R.hidd a h; ⟨⟨o, s a _ e⟩, q⟩⟩
theorem RelS.at_ {c : Cell} (R : RelS K hid ρ H mg S) (e : S[n]? = some c) (hc : c ≠ .dead) : ∃ a, ρ[n]? = some (some a) ∧ RepC K hid ρ H mg n a c := by
  rcases R.cells n c e with ⟨q, _⟩ | q
  · exact absurd q hc
  · exact q
theorem Rep.ptr_ref (h : Rep K hid ρ H v (.ptr n)) (e : ρ[n]? = some (some a)) : v = .ref a := by
  cases h with
  | ptr _ h2 => exact h2 a e
/-- the cell n, at a, is written -/
theorem RelS.write {o : HO} {c : Cell} (R : RelS K hid ρ H mg S) (e : ρ[n]? = some (some a)) (nf : ∀ q u, H a ≠ some (.frz q u)) (rc : RepC K hid ρ (upd H a o) mg n a c) :
    Ext ρ H ρ (upd H a o) ∧ RelS K hid ρ (upd H a o) mg (S.set n c) := by
  have ha : some a ∈ ρ := List.mem_of_getElem? e
  have ex : Ext ρ H ρ (upd H a o) := ⟨Nat.le_refl _, fun _ _ => .inl rfl, fun b u h1 h2 => by
    have hb : b ≠ a := fun z => h2 (z ▸ ha)
    rw [upd_ne hb]; exact ⟨h1, h2⟩, fun b q u h => by
    have hb : b ≠ a := fun z => nf q u (z ▸ h)
    rw [upd_ne hb]; exact h⟩
  refine ⟨ex, ⟨by rw [List.length_set]; exact R.len, R.nd, fun m c' hc => ?_, fun b hb => ?_⟩⟩
  · by_cases hm : m = n
    · subst hm
      have hl : m < S.length := by rw [← R.len]; exact (List.getElem?_eq_some_iff.mp e).1
      rw [List.getElem?_set_self hl] at hc
      cases hc
      exact .inr ⟨a, e, rc⟩
    · rw [List.getElem?_set_ne (Ne.symm hm)] at hc
      rcases R.cells m c' hc with q | ⟨b, q, r⟩
      · exact .inl q
      · have hb : b ≠ a := fun z => hm (R.nd m n a (z ▸ q) e)
        exact .inr ⟨b, q, r.imp (fun u h => by rw [upd_ne hb]; exact h) (fun _ _ z => z.mono ex) fun _ _ z => z.mono ex⟩
  · obtain ⟨⟨u, h1⟩, h2⟩ := R.hidd b hb
    have hne : b ≠ a := fun z => h2 (z ▸ ha)
    exact ⟨⟨u, by rw [upd_ne hne]; exact h1⟩, h2⟩
/-- the heap stays, the cell's note changes -/
theorem RelS.note {c : Cell} (R : RelS K hid ρ H mg S) (e : ρ[n]? = some (some a)) (rc : RepC K hid ρ H mg n a c) : RelS K hid ρ H mg (S.set n c) := by
  refine ⟨by rw [List.length_set]; exact R.len, R.nd, fun m c' hc => ?_, R.hidd⟩
  by_cases hm : m = n
  · subst hm
    have hl : m < S.length := by rw [← R.len]; exact (List.getElem?_eq_some_iff.mp e).1
    rw [List.getElem?_set_self hl] at hc
    cases hc
    exact .inr ⟨a, e, rc⟩
  · rw [List.getElem?_set_ne (Ne.symm hm)] at hc
    exact R.cells m c' hc
theorem RelS.ext_push {p : Addr} {o : HO} (R : RelS K hid ρ H mg S) (hp : H p = none) : Ext ρ H (ρ ++ [some p]) (upd H p o) :=
  ⟨by rw [List.length_append]; exact Nat.le_add_right _ _, fun n hn => .inl (List.getElem?_append_left hn), fun b u h1 h2 => by
    have hb : b ≠ p := ne_of_none h1 hp
    rw [upd_ne hb]
    refine ⟨h1, fun z => ?_⟩
    rcases List.mem_append.mp z with z | z
    · exact h2 z
    · have q : some b = some p := by simpa using z
      exact hb (Option.some.inj q), fun b q u h => by
    rw [upd_ne (ne_of_none h hp)]; exact h⟩
/-- a new cell at p -/
theorem RelS.push {p : Addr} {o : HO} {c : Cell} (R : RelS K hid ρ H mg S) (hp : H p = none) (rc : RepC K hid (ρ ++ [some p]) (upd H p o) mg S.length p c) :
    Ext ρ H (ρ ++ [some p]) (upd H p o) ∧ RelS K hid (ρ ++ [some p]) (upd H p o) mg (S ++ [c]) := by
  obtain ⟨f1, f2⟩ := R.fresh hp
  have ex : Ext ρ H (ρ ++ [some p]) (upd H p o) := R.ext_push hp
  refine ⟨ex, ⟨by rw [List.length_append, List.length_append, R.len]; rfl, fun n m a h1 h2 => ?_, fun m c' hc => ?_, fun b hb => ?_⟩⟩
  · have key : ∀ (i : Nat) (b : Addr), (ρ ++ [some p])[i]? = some (some b) → (i < ρ.length ∧ ρ[i]? = some (some b)) ∨ (i = ρ.length ∧ b = p) := fun i b h => by
      by_cases hi : i < ρ.length
      · rw [List.getElem?_append_left hi] at h; exact .inl ⟨hi, h⟩
      · rw [List.getElem?_append_right (by omega)] at h
        have : i - ρ.length = 0 := by
          cases q : i - ρ.length with
          | zero => rfl
          | succ k => rw [q] at h; simp at h
        rw [this] at h
        simp at h
        exact .inr ⟨by omega, h.symm⟩
    rcases key n a h1 with ⟨_, q1⟩ | ⟨q1, q1'⟩
    · rcases key m a h2 with ⟨_, q2⟩ | ⟨_, q2'⟩
      · exact R.nd n m a q1 q2
      · exact absurd (List.mem_of_getElem? (q2' ▸ q1)) f1
    · rcases key m a h2 with ⟨_, q2⟩ | ⟨q2, _⟩
      · exact absurd (List.mem_of_getElem? (q1' ▸ q2)) f1
      · omega
  · by_cases hm : m < S.length
    · rw [List.getElem?_append_left hm] at hc
      have hr : m < ρ.length := by rw [R.len]; exact hm
      rw [List.getElem?_append_left hr]
      rcases R.cells m c' hc with q | ⟨b, q, r⟩
      · exact .inl q
      · obtain ⟨u, hu⟩ := r.there
        refine .inr ⟨b, q, r.imp (fun u h => by rw [upd_ne (ne_of_none h hp)]; exact h) (fun _ _ z => z.mono ex) fun _ _ z => z.mono ex⟩
    · rw [List.getElem?_append_right (by omega)] at hc
      have hz : m - S.length = 0 := by
        cases q : m - S.length with
        | zero => rfl
        | succ k => rw [q] at hc; simp at hc
      rw [hz] at hc
      simp at hc
      subst hc
      have hm' : m = S.length := by omega
      subst hm'
      exact .inr ⟨p, by rw [← R.len]; simp, rc⟩
  · obtain ⟨⟨u, h1⟩, h2⟩ := R.hidd b hb
    obtain ⟨q1, q2⟩ := ex.keep b _ h1 h2
    exact ⟨⟨u, q1⟩, q2⟩
/-- a cell becomes frozen data -/
theorem RelS.freeze (R : RelS K hid ρ H mg S) (e : ρ[n]? = some (some a)) : Ext ρ H (ρ.set n none) H ∧ RelS K hid (ρ.set n none) H mg (S.set n .dead) ∧ some a ∉ ρ.set n none ∧ a ∉ hid := by
  have hl : n < ρ.length := (List.getElem?_eq_some_iff.mp e).1
  have sub : ∀ b : Addr, some b ∈ ρ.set n none → some b ∈ ρ := fun b h => by
    rcases List.mem_or_eq_of_mem_set h with q | q
    · exact q
    · cases q
  have ex : Ext ρ H (ρ.set n none) H := ⟨by rw [List.length_set]; exact Nat.le_refl _, fun m hm => by
    by_cases h : m = n
    · subst h; exact .inr (List.getElem?_set_self hl)
    · exact .inl (List.getElem?_set_ne (Ne.symm h)), fun b o h1 h2 => ⟨h1, fun z => h2 (sub b z)⟩, fun _ _ _ h => h⟩
  have one : ∀ (m : Nat) (b : Addr), (ρ.set n none)[m]? = some (some b) → m ≠ n ∧ ρ[m]? = some (some b) := fun m b h => by
    by_cases hm : m = n
    · subst hm
      rw [List.getElem?_set_self hl] at h; cases h
    · rw [List.getElem?_set_ne (Ne.symm hm)] at h; exact ⟨hm, h⟩
  refine ⟨ex, ⟨by rw [List.length_set, List.length_set]; exact R.len, fun m k b h1 h2 => R.nd m k b (one m b h1).2 (one k b h2).2, fun m c hc => ?_, fun b hb => ?_⟩, fun z => ?_, fun z => ?_⟩
  · by_cases hm : m = n
    · subst hm
      have hs : m < S.length := by rw [← R.len]; exact hl
      rw [List.getElem?_set_self hs] at hc
      cases hc
      exact .inl ⟨rfl, List.getElem?_set_self hl⟩
    · rw [List.getElem?_set_ne (Ne.symm hm)] at hc
      rw [List.getElem?_set_ne (Ne.symm hm)]
      exact (R.cells m c hc).imp id fun ⟨b, q, r⟩ => ⟨b, q, r.imp (fun _ h => h) (fun _ _ z => z.mono ex) fun _ _ z => z.mono ex⟩
  · obtain ⟨h1, h2⟩ := R.hidd b hb
    exact ⟨h1, fun z => h2 (sub b z)⟩
  · obtain ⟨m, hm, q⟩ := List.getElem_of_mem z
    have q' : (ρ.set n none)[m]? = some (some a) := by rw [List.getElem?_eq_getElem hm, q]
    obtain ⟨h1, h2⟩ := one m a q'
    exact h1 (R.nd m n a h2 e)
  · exact (R.hidd a z).2 (List.mem_of_getElem? e)
/-- one more hidden address -/
theorem RelS.hide {p : Addr} {o : HO} (R : RelS K hid ρ H mg S) (hp : H p = none) (ho : nTup o = true := by rfl) : Ext ρ H ρ (upd H p o) ∧ RelS K (p :: hid) ρ (upd H p o) mg S := by
  have s := same_new (o := o) hp
  obtain ⟨f1, f2⟩ := R.fresh hp
  refine ⟨Ext.same s, ⟨R.len, R.nd, fun n c e => (R.cells n c e).imp id fun ⟨a, q, r⟩ => ⟨a, q, r.imp (fun u h => s a u h) (fun d v z => (Rep.conv (Cv.hide hp) d z).mono (Ext.same s)) fun ds v z => (RepL.conv (Cv.hide hp) ds z).mono (Ext.same s)⟩, fun a h => ?_⟩⟩
  rcases List.mem_cons.mp h with q | q
  · subst q
    exact ⟨⟨⟨o, ho⟩, upd_same⟩, f1⟩
  · obtain ⟨⟨u, e⟩, z⟩ := R.hidd a q
    exact ⟨⟨u, s a _ e⟩, z⟩
/-- the hidden object changes -/
theorem RelS.turn {p : Addr} {o : HO} (R : RelS K (p :: hid) ρ H mg S) (ho : nTup o = true := by rfl) : RelS K (p :: hid) ρ (upd H p o) mg S := by
  obtain ⟨⟨u, hp⟩, hr⟩ := R.hidd p List.mem_cons_self
  refine ⟨R.len, R.nd, fun n c e => ?_, fun a h => ?_⟩
  · rcases R.cells n c e with q | ⟨a, q, r⟩
    · exact .inl q
    · have hne : a ≠ p := fun z => hr (z ▸ List.mem_of_getElem? q)
      exact .inr ⟨a, q, r.imp (fun u h => by rw [upd_ne hne]; exact h) (fun d v z => Rep.conv Cv.turn d z) fun ds v z => RepL.conv Cv.turn ds z⟩
  · obtain ⟨⟨u, e⟩, z⟩ := R.hidd a h
    by_cases ha : a = p
    · subst ha; exact ⟨⟨⟨o, ho⟩, upd_same⟩, z⟩
    · exact ⟨⟨u, by rw [upd_ne ha]; exact e⟩, z⟩
/-- nothing is hidden any more -/
theorem RelS.unhide {p : Addr} (R : RelS K (p :: hid) ρ H mg S) : RelS K hid ρ H mg S :=
  ⟨R.len, R.nd, fun n c e => (R.cells n c e).imp id fun ⟨a, q, r⟩ => ⟨a, q, r.imp (fun u h => h) (fun d v z => Rep.conv (Cv.show_ fun _ => List.mem_cons_of_mem _) d z) fun ds v z => RepL.conv (Cv.show_ fun _ => List.mem_cons_of_mem _) ds z⟩, fun a h => R.hidd a (List.mem_cons_of_mem _ h)⟩
theorem RepL.length : ∀ {vs : List V} {ds : List D}, RepL K hid ρ H vs ds → vs.length = ds.length
  | _, _, .nil => rfl
  | _, _, .cons _ t => by rw [List.length_cons, List.length_cons, RepL.length t]
theorem RepL.get : ∀ {vs : List V} {ds : List D} {i : Nat} {d : D}, RepL K hid ρ H vs ds → ds[i]? = some d → ∃ v, vs[i]? = some v ∧ Rep K hid ρ H v d
  | _, _, i, _, .nil, e => by simp at e
  | _, _, 0, _, .cons h _, e => by simp at e; subst e; exact ⟨_, rfl, h⟩
  | _, _, i + 1, _, .cons _ t, e => by
    obtain ⟨v, h1, h2⟩ := RepL.get (i := i) t (by simpa using e)
    exact ⟨v, by simpa using h1, h2⟩
theorem RepL.getV : ∀ {vs : List V} {ds : List D} {i : Nat} {v : V}, RepL K hid ρ H vs ds → vs[i]? = some v → ∃ d, ds[i]? = some d ∧ Rep K hid ρ H v d
  | _, _, i, _, .nil, e => by simp at e
  | _, _, 0, _, .cons h _, e => by simp at e; subst e; exact ⟨_, rfl, h⟩
  | _, _, i + 1, _, .cons _ t, e => by
    obtain ⟨v, h1, h2⟩ := RepL.getV (i := i) t (by simpa using e)
    exact ⟨v, by simpa using h1, h2⟩
theorem RepL.append : ∀ {vs ws : List V} {ds es : List D}, RepL K hid ρ H vs ds → RepL K hid ρ H ws es → RepL K hid ρ H (vs ++ ws) (ds ++ es)
  | _, _, _, _, .nil, h => h
  | _, _, _, _, .cons h t, k => .cons h (RepL.append t k)
theorem RepL.drop : ∀ {vs : List V} {ds : List D} (n : Nat), RepL K hid ρ H vs ds → RepL K hid ρ H (vs.drop n) (ds.drop n)
  | _, _, 0, h => h
  | _, _, _ + 1, .nil => .nil
  | _, _, n + 1, .cons _ t => RepL.drop n t
theorem RepL.take : ∀ {vs : List V} {ds : List D} (n : Nat), RepL K hid ρ H vs ds → RepL K hid ρ H (vs.take n) (ds.take n)
  | _, _, 0, _ => .nil
  | _, _, _ + 1, .nil => .nil
  | _, _, n + 1, .cons h t => .cons h (RepL.take n t)
theorem RepL.set {v : V} {d : D} (r : Rep K hid ρ H v d) : ∀ {vs : List V} {ds : List D} (i : Nat), RepL K hid ρ H vs ds → RepL K hid ρ H (vs.set i v) (ds.set i d)
  | _, _, _, .nil => .nil
  | _, _, 0, .cons _ t => .cons r t
  | _, _, i + 1, .cons q t => .cons q (RepL.set r i t)
theorem RepL.erase : ∀ {vs : List V} {ds : List D} (i : Nat), RepL K hid ρ H vs ds → RepL K hid ρ H (vs.eraseIdx i) (ds.eraseIdx i)
  | _, _, _, .nil => .nil
  | _, _, 0, .cons _ t => t
  | _, _, i + 1, .cons q t => .cons q (RepL.erase i t)
end
end MI
namespace MI
open PySem PySem.Spec L2
/-- an exception of the class named c, its fields fs -/
def ExcRep (K : PySem.W.Frag) (mg : Str → Option Value) (hid : List Addr) (ρ : Rho) (H : Hp) (cls : Value) (d : Option Addr) (c : Str) (fs : List (Str × D)) : Prop :=
  ∃ C, cls = .ref C ∧ mg c = some (.ref C) ∧ (fs = [] ∨ ∃ dd gs, d = some dd ∧ H dd = some (.xd gs) ∧ RepKV K hid ρ H gs fs)
section
variable (K : PySem.W.Frag) (mg : Str → Option Value) (hid : List Addr) (ρ : Rho) (H : Hp)
def Post {α : Type} (r : Rs α) (Q : Rho → Hp → α → Store → Prop) (W : Value → Option Addr → Hp → Prop) : Prop :=
  match r with
  | .ok a S => ∀ ρ' H', Ext ρ H ρ' H' → RelS K hid ρ' H' mg S → Q ρ' H' a S
  | .ex c fs S => ∀ ρ' H' cls d, Ext ρ H ρ' H' → RelS K hid ρ' H' mg S → ExcRep K mg hid ρ' H' cls d c fs → W cls d H'
  | .stuck => False
end
section
variable {K : PySem.W.Frag} {mg : Str → Option Value} {hid : List Addr} {ρ ρ' : Rho} {H H' : Hp} {α β : Type} {r : Rs α} {f : α → Store → Rs β} {W : Value → Option Addr → Hp → Prop} {S : Store}
theorem Post.ext {Q : Rho → Hp → α → Store → Prop} (e : Ext ρ H ρ' H') (h : Post K mg hid ρ H r Q W) : Post K mg hid ρ' H' r Q W := by
  cases r with
  | ok a S => exact fun ρ1 H1 e1 r1 => h ρ1 H1 (e.trans e1) r1
  | ex c fs S => exact fun ρ1 H1 cls d e1 r1 x => h ρ1 H1 cls d (e.trans e1) r1 x
  | stuck => exact h
theorem Post.mono {Q Q' : Rho → Hp → α → Store → Prop} (h : Post K mg hid ρ H r Q W) (k : ∀ ρ1 H1 a S1, Ext ρ H ρ1 H1 → RelS K hid ρ1 H1 mg S1 → Q ρ1 H1 a S1 → Q' ρ1 H1 a S1) : Post K mg hid ρ H r Q' W := by
  cases r with
  | ok a S => exact fun ρ1 H1 e1 r1 => k ρ1 H1 a S e1 r1 (h ρ1 H1 e1 r1)
  | ex c fs S => exact h
  | stuck => exact h
theorem Post.bind {Q : Rho → Hp → β → Store → Prop} {Q1 : Rho → Hp → α → Store → Prop} (h : Post K mg hid ρ H (r.bind f) Q W)
    (k : ∀ ρ1 H1 a S1, Ext ρ H ρ1 H1 → RelS K hid ρ1 H1 mg S1 → Post K mg hid ρ1 H1 (f a S1) Q W → Q1 ρ1 H1 a S1) : Post K mg hid ρ H r Q1 W := by
  cases r with
  | ok a S => exact fun ρ1 H1 e1 r1 => k ρ1 H1 a S e1 r1 (Post.ext e1 h)
  | ex c fs S => exact h
  | stuck => exact h
theorem Post.here {Q : Rho → Hp → α → Store → Prop} {a : α} (h : Post K mg hid ρ H (.ok a S) Q W) (R : RelS K hid ρ H mg S) : Q ρ H a S := h ρ H Ext.refl R
theorem Post.of {o : Option α} {Q : Rho → Hp → α → Store → Prop} (h : Post K mg hid ρ H (Rs.of o S) Q W) : ∃ a, o = some a ∧ ∀ ρ' H', Ext ρ H ρ' H' → RelS K hid ρ' H' mg S → Q ρ' H' a S := by
  cases o with
  | none => exact h.elim
  | some a => exact ⟨a, rfl, h⟩
end
section
variable (X : Cx) (W : WX)
/-- f, run in a state that σ and H stand for -/
def Go {α : Type} (σ : L2.St) (H : Hp) (f : MEnv → Store → Rs α) (R : List Addr → Rho → Hp → α → Store → Prop) : Prop :=
  ∃ hid ρ env S, RelS X.K hid ρ H X.mg S ∧ RelE X.K hid ρ H σ env ∧ Post X.K X.mg hid ρ H (f env S) (R hid) fun cls d H' => W cls d σ H'
def tE (c : CE) : TE := fun σ H Q => Go X W σ H (ev c) fun hid ρ H' d _ => ∀ v, Rep X.K hid ρ H' v d → Q v H'
def tA (c : CEs) : TA := fun σ H Q => Go X W σ H (evs c) fun hid ρ H' ds _ => ∀ vs, RepL X.K hid ρ H' vs ds → Q vs H'
def tT (c : CE) : TT := fun σ H Q => Go X W σ H (ev c) fun _ _ H' d _ => ∃ b, d = .bl b ∧ Q b H'
/-- a new list of the items -/
def tL (l : CL) : TE := fun σ H Q => Go X W σ H (evL l) fun hid ρ H' ds _ => ∀ xs p, RepL X.K hid ρ H' xs ds → H' p = none → Q (.ref p) (upd H' p (.lst xs))
/-- an optional whole number -/
def tO (c : CO) : TO := fun σ H Q => Go X W σ H (evN c) fun _ _ H' o _ => Q o H'
end
section
variable {X : Cx} {W : WX} {σ : L2.St} {H : Hp}
theorem Go.bind {α β : Type} {f : MEnv → Store → Rs α} {g : MEnv → α → Store → Rs β} {R : List Addr → Rho → Hp → β → Store → Prop} {R1 : List Addr → Rho → Hp → α → Store → Prop}
    (h : Go X W σ H (fun env S => (f env S).bind (g env)) R)
    (k : ∀ hid ρ1 H1 a S1 env, RelS X.K hid ρ1 H1 X.mg S1 → RelE X.K hid ρ1 H1 σ env → Post X.K X.mg hid ρ1 H1 (g env a S1) (R hid) (fun cls d H' => W cls d σ H') → R1 hid ρ1 H1 a S1) : Go X W σ H f R1 := by
  obtain ⟨hid, ρ, env, S, r, e, p⟩ := h
  exact ⟨hid, ρ, env, S, r, e, p.bind fun ρ1 H1 a S1 x r1 p1 => k hid ρ1 H1 a S1 env r1 (e.mono x) p1⟩
theorem PE.imp {e : PySem.Expr} {t t' : TE} (h : PE X e t) (w : ∀ σ H Q, t' σ H Q → t σ H Q) : PE X e t' := ⟨fun pins s σ H Q I hw => h.run pins s σ H Q I (w σ H Q hw)⟩
theorem PT.imp {e : PySem.Expr} {t t' : TT} (h : PT X e t) (w : ∀ σ H Q, t' σ H Q → t σ H Q) : PT X e t' := ⟨fun pins s σ H Q I hw => h.run pins s σ H Q I (w σ H Q hw)⟩
theorem PA.imp {e : List PySem.Expr} {t t' : TA} (h : PA X e t) (w : ∀ σ H Q, t' σ H Q → t σ H Q) : PA X e t' := ⟨fun pos pins s σ H Q I hw => h.run pos pins s σ H Q I (w σ H Q hw)⟩
theorem PS.imp {e : PySem.Stmt} {t t' : TS} (h : PS X e t) (w : ∀ D σ H, t' D σ H → t D σ H) : PS X e t' := ⟨fun pins s σ H D I hw => h.run pins s σ H D I (w D σ H hw)⟩
theorem PSs.imp {e : List PySem.Stmt} {t t' : TS} (h : PSs X e t) (w : ∀ D σ H, t' D σ H → t D σ H) : PSs X e t' := ⟨fun pins s σ H D I hw => h.run pins s σ H D I (w D σ H hw)⟩
theorem PO.imp {e : Option PySem.Expr} {t t' : TO} (h : PO X e t) (w : ∀ σ H Q, t' σ H Q → t σ H Q) : PO X e t' := ⟨fun pins s σ H Q I hw => h.run pins s σ H Q I (w σ H Q hw)⟩
variable {c a b : CE} {e ea eb ec : PySem.Expr} {pos : Pos}
/-! ### names and constants -/
theorem s_var {i : Nat} {x : Str} (hN : X.N[i]? = some x) (hv : Vis X.env.scope x) (hd : (x == ("__debug__" : Str)) = false) (hcd : (x == ("__classdict__" : Str)) = false) : PE X (.Name x pos) (tE X W (.var i)) := by
  refine PE.imp (pe_var hN hv hd hcd) fun σ H Q h => ?_
  obtain ⟨hid, ρ, env, S, r, re, p⟩ := h
  rw [show ev (.var i) env S = (match env[i]? with | some (some d) => .ok d S | _ => .stuck) from rfl] at p
  cases q : env[i]? with
  | none => rw [q] at p; exact p.elim
  | some o =>
    cases o with
    | none => rw [q] at p; exact p.elim
    | some d =>
      rw [q] at p
      obtain ⟨v, h1, h2⟩ := re.at_ i d q
      exact ⟨v, h1, p.here r v h2⟩
theorem s_frz {i : Nat} {x : Str} (hN : X.N[i]? = some x) (hv : Vis X.env.scope x) (hd : (x == ("__debug__" : Str)) = false) (hcd : (x == ("__classdict__" : Str)) = false) : PE X (.Name x pos) (tE X W (.frz i)) := by
  refine PE.imp (pe_var hN hv hd hcd) fun σ H Q h => ?_
  obtain ⟨hid, ρ, env, S, r, re, p⟩ := h
  have p' : Post X.K X.mg hid ρ H (match env[i]? with | some (some (.ptr n)) => (match S[n]? with | some (.lst ds) => .ok (.lst ds) (S.set n .dead) | _ => .stuck) | _ => .stuck) (fun ρ H' d _ => ∀ v, Rep X.K hid ρ H' v d → Q v H') (fun cls d H' => W cls d σ H') := p
  split at p'
  · rename_i n q
    split at p'
    · rename_i ds q2
      obtain ⟨v, h1, h2⟩ := re.at_ i _ q
      obtain ⟨a, ha, hl, xs, hx, rx⟩ := r.at_ q2 (by simp)
      have ev := h2.ptr_ref ha
      subst ev
      obtain ⟨f1, f2, f3, f4⟩ := r.freeze ha
      exact ⟨_, h1, p' _ _ f1 f2 _ (.lst hx f3 f4 (rx.mono f1))⟩
    · exact p'.elim
  · exact p'.elim
theorem s_const {v : V} {d : D} (he : PE X e (tC v)) (hc : ∀ env S, ev c env S = .ok d S) (hr : ∀ hid ρ H, Rep X.K hid ρ H v d) : PE X e (tE X W c) := by
  refine PE.imp he fun σ H Q h => ?_
  obtain ⟨hid, ρ, env, S, r, re, p⟩ := h
  rw [hc] at p
  exact p.here r v (hr _ _ _)
theorem sm64_ok {i : Int} (h : sm64 i = true) : -(2 ^ 64) < i ∧ i < 2 ^ 64 := by
  have h' : i.natAbs < 18446744073709551616 := of_decide_eq_true h
  have e : (2 : Int) ^ 64 = 18446744073709551616 := by decide
  rw [e]; omega
/-! ### operators, by values -/
/-- what an operation on data hands back, by values -/
def rD (X : Cx) (f : D → D → Store → Option D) : R2 := fun x y H Q => ∃ hid ρ S dx dy d, RelS X.K hid ρ H X.mg S ∧ Rep X.K hid ρ H x dx ∧ Rep X.K hid ρ H y dy ∧ f dx dy S = some d ∧
  ∀ ρ' H' v, Ext ρ H ρ' H' → RelS X.K hid ρ' H' X.mg S → Rep X.K hid ρ' H' v d → Q v H'
theorem go_op {f : D → D → Store → Option D} {Q : VK} (h : Go X W σ H (fun env S => (ev a env S).bind fun x S => (ev b env S).bind fun y S => Rs.of (f x y S) S) fun hid ρ H' d _ => ∀ v, Rep X.K hid ρ H' v d → Q v H') :
    tOp (rD X f) (tE X W a) (tE X W b) σ H Q := by
  refine h.bind fun hid ρ1 H1 dx S1 env r1 e1 p1 x rx => ?_
  refine ⟨hid, ρ1, env, S1, r1, e1, p1.bind fun ρ2 H2 dy S2 ex r2 p2 y ry => ?_⟩
  obtain ⟨d, hd, k⟩ := p2.of
  exact ⟨hid, ρ2, S2, dx, dy, d, r2, rx.mono ex, ry, hd, fun ρ' H' v e' r' rv => k ρ' H' e' r' v rv⟩
def opOf : BOp → Operator
  | .add => .Add | .sub => .Sub | .mul => .Mult | .fdiv => .FloorDiv | .mod => .Mod | .pow => .Pow
def cmpOf : COp → CmpOp
  | .eq => .Eq | .ne => .NotEq | .lt => .Lt | .le => .LtE | .gt => .Gt | .ge => .GtE | .inn => .In | .notin => .NotIn
theorem op_fdivZ : OpR X (binaryOp .FloorDiv) (rI (fun _ j => j ≠ 0 ∧ j.natAbs.log2 < 9000) fun i j => .int (i.fdiv j)) := opI fun i j _ _ _ _ _ hc q =>
  PyProof.Rows.floordiv_int hc.1 q (.inl (PyProof.noPylong_of_log2 hc.2))
theorem line_ge : (1000000 : Nat) < sizeLine := by rw [sizeLine_eq]; decide
theorem le_line {n : Nat} (h : n ≤ 1000000) : n ≤ sizeLine := Nat.le_of_lt (Nat.lt_of_le_of_lt h line_ge)
theorem lt_line {n : Nat} (h : n < 1000000) : n < sizeLine := Nat.lt_trans h line_ge
/-- a list of data, at a -/
theorem lst_at {hid : List Addr} {ρ : Rho} {S : Store} {x : V} {d : D} {ds : List D} (r : RelS X.K hid ρ H X.mg S) (rx : Rep X.K hid ρ H x d)
    (h : d = .lst ds ∨ ∃ n, d = .ptr n ∧ S[n]? = some (.lst ds)) : ∃ a xs, x = .ref a ∧ H a = some (.lst xs) ∧ RepL X.K hid ρ H xs ds := by
  rcases h with e | ⟨n, e, h⟩
  · subst e
    cases rx with
    | lst h1 _ _ h4 => exact ⟨_, _, rfl, h1, h4⟩
  · subst e
    obtain ⟨a, ha, _, xs, hx, rl⟩ := r.at_ h (by simp)
    exact ⟨a, xs, rx.ptr_ref ha, hx, rl⟩
theorem new_lst {hid : List Addr} {ρ : Rho} {S : Store} {p : Addr} {xs : List V} {ds : List D} (r : RelS X.K hid ρ H X.mg S) (rl : RepL X.K hid ρ H xs ds) (hp : H p = none) :
    Ext ρ H ρ (upd H p (.lst xs)) ∧ RelS X.K hid ρ (upd H p (.lst xs)) X.mg S ∧ Rep X.K hid ρ (upd H p (.lst xs)) (.ref p) (.lst ds) := by
  obtain ⟨f1, f2⟩ := r.fresh hp
  have s := same_new (o := HO.lst xs) hp
  exact ⟨Ext.same s, r.same s, .lst upd_same f1 f2 (rl.mono (Ext.same s))⟩
theorem new_tup {hid : List Addr} {ρ : Rho} {S : Store} {p : Addr} {xs : List V} {ds : List D} (r : RelS X.K hid ρ H X.mg S) (rl : RepL X.K hid ρ H xs ds) (hp : H p = none) :
    Ext ρ H ρ (upd H p (.tup xs)) ∧ RelS X.K hid ρ (upd H p (.tup xs)) X.mg S ∧ Rep X.K hid ρ (upd H p (.tup xs)) (.ref p) (.tup ds) := by
  obtain ⟨f1, f2⟩ := r.fresh hp
  have s := same_new (o := HO.tup xs) hp
  exact ⟨Ext.same s, r.same s, .tup upd_same f1 f2 (rl.mono (Ext.same s))⟩
theorem opD_cat {x y : V} {hid : List Addr} {ρ : Rho} {S : Store} {dx dy : D} {as bs : List D} {pins : List (Addr × Obj)} {s : Shared} {v u : Value} {Q : VK} (I : Inv X pins σ H s) (rx : RelV x v) (ry : RelV y u)
    (r : RelS X.K hid ρ H X.mg S) (hx : Rep X.K hid ρ H x dx) (hy : Rep X.K hid ρ H y dy)
    (ha : dx = .lst as ∨ ∃ n, dx = .ptr n ∧ S[n]? = some (.lst as)) (hb : dy = .lst bs ∨ ∃ n, dy = .ptr n ∧ S[n]? = some (.lst bs))
    (hz : as.length + bs.length ≤ 1000000) (k : ∀ ρ' H' v, Ext ρ H ρ' H' → RelS X.K hid ρ' H' X.mg S → Rep X.K hid ρ' H' v (.lst (as ++ bs)) → Q v H') :
    wpAny (model X.prog X.w) X.A (binaryOp .Add v u) (EP X pins σ Q) X.xe s := by
  obtain ⟨a, xs, rfl, h1, l1⟩ := lst_at r hx ha
  obtain ⟨b, ys, rfl, h2, l2⟩ := lst_at r hy hb
  refine op_cat pins s σ H _ _ v u Q I rx ry ⟨a, b, xs, ys, rfl, rfl, h1, h2, le_line (by rw [l1.length, l2.length]; exact hz), fun p hp => ?_⟩
  obtain ⟨q1, q2, q3⟩ := new_lst r (l1.append l2) hp
  exact k _ _ _ q1 q2 q3
theorem repL_reps {K : PySem.W.Frag} {hid : List Addr} {ρ : Rho} {H : Hp} {xs : List V} {ds : List D} (n : Nat) (h : RepL K hid ρ H xs ds) : RepL K hid ρ H (List.replicate n xs).flatten (List.replicate n ds).flatten := by
  induction n with
  | zero => exact .nil
  | succ n ih => rw [List.replicate_succ, List.replicate_succ, List.flatten_cons, List.flatten_cons]; exact h.append ih
theorem op_mulS : OpR X (binaryOp .Mult) (fun x y H Q => ∃ (a : Str) (k : Int), x = .str a ∧ y = .int k ∧ a.length ≤ 1000 ∧ -1000 ≤ k ∧ k ≤ 1000 ∧ Q (.str (Txt.mul a k)) H) := by
  intro pins s σ H x y v u Q I rx ry h
  obtain ⟨a, k, rfl, rfl, h1, h2, h3, q⟩ := h
  obtain ⟨t, rfl⟩ := rx
  obtain ⟨t', rfl⟩ := ry
  exact PySem.SB.mul (PyProof.Rows.mulOk_of 1000 1000 h1 (by omega) (by omega) (by omega) (by omega)) fun t'' n => ⟨.str (Txt.mul a k), H, I.tok n, ⟨t'', rfl⟩, q⟩
theorem opD (op : BOp) : OpR X (binaryOp (opOf op)) (rD X (binD op)) := by
  intro pins s σ H x y v u Q I rx ry h
  obtain ⟨hid, ρ, S, dx, dy, d, r, hx, hy, hd, k⟩ := h
  have fin : ∀ i j : Int, dx = .int i → dy = .int j → x = .int i ∧ y = .int j := fun i j e1 e2 => by
    subst e1 e2; cases hx; cases hy; exact ⟨rfl, rfl⟩
  have out : ∀ i : Int, d = .int i → Q (.int i) H := fun i e => by
    subst e; exact k ρ H _ Ext.refl r (.int i)
  cases op with
  | add =>
    unfold binD at hd
    dsimp only at hd
    split at hd
    · split at hd
      · rename_i i _ j
        obtain ⟨rfl, rfl⟩ := fin i j rfl rfl
        exact op_add pins s σ H _ _ v u Q I rx ry ⟨i, j, rfl, rfl, out _ (Option.some.inj hd).symm⟩
      · cases hd
    · split at hd
      · rename_i i _ j
        split at hd
        · rename_i hz
          cases hx; cases hy
          cases hd
          exact op_add_str pins s σ H _ _ v u Q I rx ry ⟨i, j, rfl, rfl, le_line hz, k ρ H _ Ext.refl r (.str _)⟩
        · cases hd
      · cases hd
    · split at hd
      · split at hd
        · rename_i as bs hz
          cases hx with
          | tup h1 h2 h3 h4 =>
            cases hy with
            | tup g1 g2 g3 g4 =>
              rename_i a xs b ys
              cases hd
              refine op_catA pins s σ H _ _ v u Q I rx ry ⟨_, _, xs, ys, rfl, rfl, SqT.of h1, SqT.of g1, le_line (by rw [h4.length, g4.length]; exact hz), fun e => ?_, fun _ e => ?_, fun _ _ p hp => ?_⟩
              · subst e
                cases h4
                exact k ρ H _ Ext.refl r (.tup g1 g2 g3 (by simpa using g4))
              · subst e
                cases g4
                exact k ρ H _ Ext.refl r (.tup h1 h2 h3 (by simpa using h4))
              · obtain ⟨q1, q2, q3⟩ := new_tup r (h4.append g4) hp
                exact k _ _ _ q1 q2 q3
        · cases hd
      · cases hd
    · split at hd
      · split at hd
        · rename_i hz; cases hd
          exact opD_cat I rx ry r hx hy (.inl rfl) (.inl rfl) hz k
        · cases hd
      · split at hd
        · rename_i e
          split at hd
          · rename_i hz; cases hd
            exact opD_cat I rx ry r hx hy (.inl rfl) (.inr ⟨_, rfl, e⟩) hz k
          · cases hd
        · cases hd
      · cases hd
    · split at hd
      · rename_i e0
        split at hd
        · split at hd
          · rename_i hz; cases hd
            exact opD_cat I rx ry r hx hy (.inr ⟨_, rfl, e0⟩) (.inl rfl) hz k
          · cases hd
        · split at hd
          · rename_i e
            split at hd
            · rename_i hz; cases hd
              exact opD_cat I rx ry r hx hy (.inr ⟨_, rfl, e0⟩) (.inr ⟨_, rfl, e⟩) hz k
            · cases hd
          · cases hd
        · cases hd
      · cases hd
    · cases hd
  | sub =>
    unfold binD at hd
    dsimp only at hd
    split at hd
    · split at hd
      · rename_i i _ j
        obtain ⟨rfl, rfl⟩ := fin i j rfl rfl
        exact op_sub pins s σ H _ _ v u Q I rx ry ⟨i, j, rfl, rfl, out _ (Option.some.inj hd).symm⟩
      · cases hd
    · cases hd
  | mul =>
    unfold binD at hd
    dsimp only at hd
    split at hd
    · split at hd
      · rename_i i _ j
        split at hd
        · rename_i hz
          obtain ⟨rfl, rfl⟩ := fin i j rfl rfl
          have hz : (sm64 i || sm64 j || decide (i.natAbs.log2 + j.natAbs.log2 < 1000000)) = true := hz
          rcases Bool.or_eq_true_iff.mp hz with hz | hz
          · refine op_mul pins s σ H _ _ v u Q I rx ry ⟨i, j, rfl, rfl, ?_, out _ (Option.some.inj hd).symm⟩
            rcases Bool.or_eq_true_iff.mp hz with hz | hz
            · exact .inl (sm64_ok hz)
            · exact .inr (sm64_ok hz)
          · exact op_mulW pins s σ H _ _ v u Q I rx ry ⟨i, j, rfl, rfl, of_decide_eq_true (p := i.natAbs.log2 + j.natAbs.log2 < 1000000) hz, out _ (Option.some.inj hd).symm⟩
        · cases hd
      · cases hd
    · split at hd
      · split at hd
        · rename_i a _ j hz
          cases hd
          cases hx; cases hy
          exact op_mulS pins s σ H _ _ v u Q I rx ry ⟨a, j, rfl, rfl, hz.1, hz.2.1, hz.2.2, k ρ H _ Ext.refl r (.str _)⟩
        · cases hd
      · cases hd
    · split at hd
      · split at hd
        · rename_i a _ j hz
          cases hd
          cases hy
          cases hx with
          | lst h1 h2 h3 h4 =>
            refine op_rep pins s σ H _ _ v u Q I rx ry ⟨_, j, _, rfl, rfl, h1, by omega, by omega, by rw [h4.length]; exact le_line hz.1, fun p hp => ?_⟩
            obtain ⟨q1, q2, q3⟩ := new_lst r (repL_reps j.toNat h4) hp
            exact k _ _ _ q1 q2 q3
        · cases hd
      · cases hd
    · cases hd
  | fdiv =>
    unfold binD at hd
    dsimp only at hd
    split at hd
    · split at hd
      · rename_i i _ j
        split at hd
        · rename_i hz
          have hz' : j.natAbs.log2 < 9000 := of_decide_eq_true hz
          obtain ⟨rfl, rfl⟩ := fin i j rfl rfl
          split at hd
          · rename_i hj
            exact op_fdivW pins s σ H _ _ v u Q I rx ry ⟨i, j, rfl, rfl, ⟨hj, hz'⟩, out _ (Option.some.inj hd).symm⟩
          · split at hd
            · rename_i hj
              exact op_fdivZ pins s σ H _ _ v u Q I rx ry ⟨i, j, rfl, rfl, ⟨by omega, hz'⟩, out _ (Option.some.inj hd).symm⟩
            · cases hd
        · cases hd
      · cases hd
    · cases hd
  | mod =>
    unfold binD at hd
    dsimp only at hd
    split at hd
    · split at hd
      · rename_i i _ j
        split at hd
        · rename_i hz
          obtain ⟨rfl, rfl⟩ := fin i j rfl rfl
          exact op_mod pins s σ H _ _ v u Q I rx ry ⟨i, j, rfl, rfl, hz, out _ (Option.some.inj hd).symm⟩
        · cases hd
      · cases hd
    · cases hd
  | pow =>
    unfold binD at hd
    dsimp only at hd
    split at hd
    · split at hd
      · rename_i i _ j
        split at hd
        · rename_i hz
          obtain ⟨rfl, rfl⟩ := fin i j rfl rfl
          exact op_pow pins s σ H _ _ v u Q I rx ry ⟨i, j, rfl, rfl, ⟨hz.1, by omega, by have := hz.2.2; omega⟩, out _ (Option.some.inj hd).symm⟩
        · cases hd
      · cases hd
    · cases hd
theorem s_bin {op : BOp} (ha : PE X ea (tE X W a)) (hb : PE X eb (tE X W b)) : PE X (.BinOp ea (opOf op) eb pos) (tE X W (.bin op a b)) :=
  PE.imp (pe_op (opD op) ha hb) fun σ H Q h => go_op (f := binD op) h
theorem s_neg (ha : PE X ea (tE X W a)) : PE X (.UnaryOp .USub ea pos) (tE X W (.neg a)) := by
  refine PE.imp (pe_un un_neg ha) fun σ H Q h => ?_
  have h' : Go X W σ H (fun env S => (ev a env S).bind fun x S => (match x with | D.int i => Rs.ok (D.int (-i)) S | _ => Rs.stuck)) (fun hid ρ H' d _ => ∀ v, Rep X.K hid ρ H' v d → Q v H') := h
  refine h'.bind fun hid ρ1 H1 dx S1 env r1 e1 p1 x rx => ?_
  split at p1
  · rename_i i
    cases rx
    exact ⟨i, rfl, p1.here r1 _ (.int _)⟩
  · exact p1.elim
end
end MI
namespace MI
open PySem PySem.Spec L2
section
variable {K : PySem.W.Frag} {mg : Str → Option Value} {hid : List Addr} {ρ ρ' : Rho} {H H' : Hp} {S : Store}
mutual
theorem Rep.dp : ∀ (d : D) (n : Nat) {v : V}, Rep K hid ρ H v d → d.fit n = true → Dp K H v d.py
  | .non, _, _, h, _ => by cases h; simp only [D.py]; exact .non
  | .bl b, _, _, h, _ => by cases h; simp only [D.py]; exact .bl b
  | .int b, _, _, h, _ => by cases h; simp only [D.py]; exact .int b
  | .str b, _, _, h, _ => by cases h; simp only [D.py]; exact .str b
  | .tup ds, n, _, h, f => by
    cases h with
    | tup h1 h2 h3 h4 =>
      cases n with
      | zero => simp [D.fit] at f
      | succ n => simp only [D.py]; exact .tup (SqT.of h1) (RepL.dp ds n h4 (by simpa [D.fit] using f))
  | .lst ds, n, _, h, f => by
    cases h with
    | lst h1 h2 h3 h4 =>
      cases n with
      | zero => simp [D.fit] at f
      | succ n => simp only [D.py]; exact .lst (SqL.of h1) (RepL.dp ds n h4 (by simpa [D.fit] using f))
  | .con ds, _, _, _, f => by simp [D.fit] at f
  | .scr ds, _, _, _, f => by simp [D.fit] at f
  | .ptr ds, _, _, _, f => by simp [D.fit] at f
theorem RepL.dp : ∀ (ds : List D) (n : Nat) {vs : List V}, RepL K hid ρ H vs ds → fitL ds n = true → DpAll K H vs (pyL ds)
  | [], _, _, h, _ => by cases h; simp only [pyL]; exact .nil
  | d :: ds, n, _, h, f => by
    cases h with
    | cons h1 h2 =>
      have f' : d.fit n = true ∧ fitL ds n = true := by simpa [fitL] using f
      simp only [pyL]
      exact .cons (Rep.dp d n h1 f'.1) (RepL.dp ds n h2 f'.2)
end
mutual
theorem fit_shape : ∀ (d : D) (n : Nat), d.fit n = true → d.py.canLay0 = true ∧ d.py.depth ≤ n
  | .non, _, _ => by simp [D.py, PyData.canLay0, PyData.depth]
  | .bl b, _, _ => by simp [D.py, PyData.canLay0, PyData.depth]
  | .int b, _, _ => by simp [D.py, PyData.canLay0, PyData.depth]
  | .str b, _, f => by simpa [D.py, PyData.canLay0, PyData.depth, D.fit] using f
  | .tup ds, n, f => by
    cases n with
    | zero => simp [D.fit] at f
    | succ n =>
      obtain ⟨h1, h2⟩ := fitL_shape ds n (by simpa [D.fit] using f)
      simp only [D.py, PyData.canLay0, PyData.depth]
      exact ⟨h1, by omega⟩
  | .lst ds, n, f => by
    cases n with
    | zero => simp [D.fit] at f
    | succ n =>
      obtain ⟨h1, h2⟩ := fitL_shape ds n (by simpa [D.fit] using f)
      simp only [D.py, PyData.canLay0, PyData.depth]
      exact ⟨h1, by omega⟩
  | .con ds, _, f => by simp [D.fit] at f
  | .scr ds, _, f => by simp [D.fit] at f
  | .ptr ds, _, f => by simp [D.fit] at f
theorem fitL_shape : ∀ (ds : List D) (n : Nat), fitL ds n = true → PyData.canLayAll0 (pyL ds) = true ∧ PyData.depthAll (pyL ds) ≤ n
  | [], _, _ => by simp [pyL, PyData.canLayAll0, PyData.depthAll]
  | d :: ds, n, f => by
    have f' : d.fit n = true ∧ fitL ds n = true := by simpa [fitL] using f
    obtain ⟨h1, h2⟩ := fit_shape d n f'.1
    obtain ⟨h3, h4⟩ := fitL_shape ds n f'.2
    simp only [pyL, PyData.canLayAll0, PyData.depthAll, h1, h3]
    exact ⟨rfl, by omega⟩
end
theorem fit_shaped {d : D} (f : d.fit 50 = true) : SeqAt.shaped d.py = true := by
  obtain ⟨h1, h2⟩ := fit_shape d 50 f
  show (d.py.canLay0 && decide (d.py.depth ≤ 64)) = true
  rw [Bool.and_eq_true]
  exact ⟨h1, decide_eq_true (by omega)⟩
theorem fitL_shaped {ds : List D} (f : fitL ds 50 = true) : SeqAt.shaped (.list (pyL ds)) = true := by
  obtain ⟨h1, h2⟩ := fitL_shape ds 50 f
  show (PyData.canLayAll0 (pyL ds) && decide (PyData.depthAll (pyL ds) + 1 ≤ 64)) = true
  rw [Bool.and_eq_true]
  exact ⟨h1, decide_eq_true (by omega)⟩
mutual
theorem eqD_py : ∀ (x y : D) {b : Bool}, eqD x y = some b → PyData.eqv x.py y.py = b
  | .non, y, b, h => by cases y <;> simp_all [eqD, D.py, PyData.eqv]
  | .bl a, y, b, h => by cases y <;> simp_all [eqD, D.py, PyData.eqv]
  | .int a, y, b, h => by cases y <;> simp_all [eqD, D.py, PyData.eqv]
  | .str a, y, b, h => by cases y <;> simp_all [eqD, D.py, PyData.eqv]
  | .tup xs, y, b, h => by
    cases y with
    | tup ys => simp only [D.py, PyData.eqv]; exact eqL_py xs ys (by simpa [eqD] using h)
    | _ => simp_all [eqD, D.py, PyData.eqv]
  | .lst xs, y, b, h => by
    cases y with
    | lst ys => simp only [D.py, PyData.eqv]; exact eqL_py xs ys (by simpa [eqD] using h)
    | _ => simp_all [eqD, D.py, PyData.eqv]
  | .con xs, y, b, h => by simp [eqD] at h
  | .scr xs, y, b, h => by simp [eqD] at h
  | .ptr xs, y, b, h => by simp [eqD] at h
theorem eqL_py : ∀ (xs ys : List D) {b : Bool}, eqL xs ys = some b → PyData.eqvAll (pyL xs) (pyL ys) = b
  | [], ys, b, h => by cases ys <;> simp_all [eqL, pyL, PyData.eqvAll]
  | x :: xs, [], b, h => by simp_all [eqL, pyL, PyData.eqvAll]
  | x :: xs, y :: ys, b, h => by
    simp only [eqL] at h
    split at h
    · rename_i b1 h1
      split at h
      · rename_i b2 h2
        cases h
        simp only [pyL, PyData.eqvAll, eqD_py x y h1, eqL_py xs ys h2]
      · cases h
    · cases h
end
theorem memD_py (x : D) : ∀ (ys : List D) {b : Bool}, memD x ys = some b → ((pyL ys).any fun z => PyData.eqv z x.py) = b
  | [], b, h => by simp_all [memD, pyL]
  | y :: ys, b, h => by
    simp only [memD] at h
    split at h
    · rename_i b1 h1
      split at h
      · rename_i b2 h2
        cases h
        simp only [pyL, List.any_cons, eqD_py y x h1, memD_py x ys h2]
      · cases h
    · cases h
/-- flat data -/
theorem Rep.flat {v : V} {d : D} (h : Rep K hid ρ H v d) (f : flatD d = true) : flatV v = true := by
  cases d <;> first | (cases h; rfl) | (simp [flatD] at f)
theorem flat_eq {v w : V} {d e : D} {b : Bool} (h : Rep K hid ρ H v d) (g : Rep K hid ρ H w e) (hf : flatD d = true) (gf : flatD e = true) (he : eqD d e = some b) : scal v w = true ∧ decide (v = w) = b := by
  cases d <;> first | (simp [flatD] at hf; done) | skip
  all_goals cases e <;> first | (simp [flatD] at gf; done) | skip
  all_goals cases h
  all_goals cases g
  all_goals first
    | (simp only [eqD, Option.some.injEq] at he; subst he; refine ⟨rfl, ?_⟩; first | rfl | (exact decide_eq_false (by intro z; cases z)) | exact dec_bl | exact dec_int | exact dec_str)
    | (simp [eqD] at he)
theorem flat_eqV {v w : V} {d e : D} {b : Bool} (h : Rep K hid ρ H v d) (g : Rep K hid ρ H w e) (hf : flatD d = true) (gf : flatD e = true) (he : eqD d e = some b) : eqV v w = b := by
  cases d <;> first | (simp [flatD] at hf; done) | skip
  all_goals cases e <;> first | (simp [flatD] at gf; done) | skip
  all_goals cases h
  all_goals cases g
  all_goals first
    | (simp only [eqD, Option.some.injEq] at he; subst he; rfl)
    | (simp [eqD] at he)
theorem flat_mem {v : V} {d : D} (h : Rep K hid ρ H v d) (hf : flatD d = true) : ∀ {vs : List V} {ds : List D} {b : Bool}, RepL K hid ρ H vs ds → ds.all flatD = true → memD d ds = some b → vs.all flatV = true ∧ inV v vs = b
  | _, _, b, .nil, _, e => by
    simp only [memD, Option.some.injEq] at e
    subst e
    exact ⟨rfl, rfl⟩
  | w :: vs, e :: ds, b, .cons r t, f, q => by
    simp only [List.all_cons, Bool.and_eq_true] at f
    simp only [memD] at q
    split at q
    · rename_i b1 h1
      split at q
      · rename_i b2 h2
        cases q
        obtain ⟨i1, i2⟩ := flat_mem h hf t f.2 h2
        refine ⟨by simp only [List.all_cons, r.flat f.1, i1, Bool.and_self], ?_⟩
        have i2' : (vs.any fun y => eqV y v) = b2 := i2
        show ((w :: vs).any fun y => eqV y v) = _
        rw [List.any_cons, i2', flat_eqV r h f.1 hf h1]
      · cases q
    · cases q
/-! dicts -/
theorem toKey_rep {v : V} {d : D} {k : Key} (h : Rep K hid ρ H v d) (e : toKey d = some k) : v = kV k := by
  cases d <;> simp [toKey] at e
  · cases h; subst e; rfl
  · cases h; subst e; rfl
theorem toKeys_rep : ∀ {vs : List V} {ds : List D} {k : List Key}, RepL K hid ρ H vs ds → toKeys ds = some k → vs = k.map kV
  | _, _, k, .nil, e => by simp [toKeys] at e; subst e; rfl
  | _, d :: ds, k, .cons h t, e => by
    simp only [toKeys] at e
    split at e
    · rename_i k1 k2 h1 h2
      cases e
      rw [List.map_cons, toKey_rep h h1, toKeys_rep t h2]
    · cases e
section
variable {κ : Type} [DecidableEq κ]
theorem kv_val {ks : List (κ × V)} {kvs : List (κ × D)} (h : RepKV K hid ρ H ks kvs) (k : κ) : (valV ks k = none ∧ valD kvs k = none) ∨ ∃ v d, valV ks k = some v ∧ valD kvs k = some d ∧ Rep K hid ρ H v d := by
  induction h with
  | nil => exact .inl ⟨rfl, rfl⟩
  | @cons p q l1 l2 hd t ih =>
    obtain ⟨e1, e2⟩ := hd
    by_cases hk : p.1 = k
    · have hq : q.1 = k := e1 ▸ hk
      exact .inr ⟨p.2, q.2, valV_pos hk, by simp [valD, List.find?_cons, hq], e2⟩
    · have hq : ¬ q.1 = k := e1 ▸ hk
      rw [valV_neg hk]
      have : valD (q :: l2) k = valD l2 k := by simp [valD, List.find?_cons, hq]
      rw [this]
      exact ih
theorem kv_any {ks : List (κ × V)} {kvs : List (κ × D)} (h : RepKV K hid ρ H ks kvs) (k : κ) : (ks.any fun kv => decide (kv.1 = k)) = kvs.any fun kv => decide (kv.1 = k) := by
  induction h with
  | nil => rfl
  | @cons p q l1 l2 hd t ih => rw [List.any_cons, List.any_cons, ih, hd.1]
theorem kv_snoc {ks : List (κ × V)} {kvs : List (κ × D)} {k : κ} {v : V} {d : D} (h : RepKV K hid ρ H ks kvs) (r : Rep K hid ρ H v d) : RepKV K hid ρ H (ks ++ [(k, v)]) (kvs ++ [(k, d)]) := Paired.snoc h ⟨rfl, r⟩
theorem kv_map {ks : List (κ × V)} {kvs : List (κ × D)} {k : κ} {v : V} {d : D} (h : RepKV K hid ρ H ks kvs) (r : Rep K hid ρ H v d) :
    RepKV K hid ρ H (ks.map fun kv => if kv.1 = k then (kv.1, v) else kv) (kvs.map fun kv => if kv.1 = k then (kv.1, d) else kv) := by
  induction h with
  | nil => exact .nil
  | @cons p q l1 l2 hd t ih =>
    refine .cons ?_ ih
    by_cases hk : p.1 = k
    · have hq : q.1 = k := hd.1 ▸ hk
      simp only [if_pos hk, if_pos hq]; exact ⟨hd.1, r⟩
    · have hq : ¬ q.1 = k := hd.1 ▸ hk
      simp only [if_neg hk, if_neg hq]; exact hd
theorem kv_put {ks : List (κ × V)} {kvs : List (κ × D)} {k : κ} {v : V} {d : D} (h : RepKV K hid ρ H ks kvs) (r : Rep K hid ρ H v d) : RepKV K hid ρ H (putK ks k v) (putD kvs k d) := by
  unfold putK putD
  rw [kv_any h k]
  split
  · exact kv_map h r
  · exact kv_snoc h r
theorem kv_len {ks : List (κ × V)} {kvs : List (κ × D)} (h : RepKV K hid ρ H ks kvs) : ks.length = kvs.length := Paired.length h
theorem putD_lt {kvs : List (κ × D)} {k : κ} {d : D} {n : Nat} (h : ∀ kv ∈ kvs, kv.2.lt n = true) (hd : d.lt n = true) : ∀ kv ∈ putD kvs k d, kv.2.lt n = true := by
  unfold putD
  split
  · intro kv hm
    obtain ⟨q, hq, rfl⟩ := List.mem_map.mp hm
    split
    · exact hd
    · exact h q hq
  · intro kv hm
    rcases List.mem_append.mp hm with q | q
    · exact h kv q
    · rw [List.mem_singleton.mp q]; exact hd
end
/-- a look-up -/
theorem dget_rep {x y : V} {dx dy : D} {o : Option D} (r : RelS K hid ρ H mg S) (hx : Rep K hid ρ H x dx) (hy : Rep K hid ρ H y dy) (e : dGet dx dy S = some o) :
    ∃ a ov, x = .ref a ∧ DGet H a y ov ∧ ((ov = none ∧ o = none) ∨ ∃ v d, ov = some v ∧ o = some d ∧ Rep K hid ρ H v d) := by
  unfold dGet at e
  split at e
  · rename_i n
    split at e
    · rename_i kvs q
      obtain ⟨k, hk, rfl⟩ := Option.map_eq_some_iff.mp e
      obtain ⟨a, ha, _, ks, h1, h2⟩ := r.at_ q (by simp)
      have := toKey_rep hy hk
      subst this
      refine ⟨a, valV ks k, hx.ptr_ref ha, .inl ⟨ks, k, .inl h1, rfl, rfl⟩, ?_⟩
      exact kv_val h2 k
    · rename_i kvs q
      obtain ⟨k, hk, rfl⟩ := Option.map_eq_some_iff.mp e
      obtain ⟨a, ha, _, ks, o, h1, h2⟩ := r.at_ q (by simp)
      have := toKey_rep hy hk
      subst this
      refine ⟨a, valV ks k, hx.ptr_ref ha, .inl ⟨ks, k, .inr ⟨o, h1⟩, rfl, rfl⟩, ?_⟩
      exact kv_val h2 k
    · rename_i kvs q
      split at e
      · rename_i ks'
        obtain ⟨k, hk, rfl⟩ := Option.map_eq_some_iff.mp e
        obtain ⟨a, ha, _, ks, h1, h2⟩ := r.at_ q (by simp)
        cases hy with
        | tup g1 g2 g3 g4 =>
          have := toKeys_rep g4 hk
          subst this
          refine ⟨a, valV ks k, hx.ptr_ref ha, .inr ⟨ks, k, _, .inl h1, rfl, g1, rfl⟩, ?_⟩
          exact kv_val h2 k
      · cases e
    · cases e
  · cases e
theorem rdc_sq {a : Addr} {xs : List V} (h : RdC K hid ρ H a xs) : SqL K H a xs := by
  rcases h with h | ⟨o, h, _⟩
  · rcases h with q | q
    · rcases q with q | ⟨_, q⟩ <;> cases q
    · exact .inr q
  · exact .inl (.inr ⟨o, h⟩)
/-- what is read by its items -/
theorem seq_rep {x : V} {d : D} {ds : List D} (r : RelS K hid ρ H mg S) (hx : Rep K hid ρ H x d) (e : seqOf d S = some ds) : ∃ a xs, x = .ref a ∧ (SqL K H a xs ∨ SqT K H a xs) ∧ RepL K hid ρ H xs ds := by
  unfold seqOf at e
  split at e
  · cases e
    cases hx with
    | lst h1 _ _ h4 => exact ⟨_, _, rfl, .inl (SqL.of h1), h4⟩
  · cases e
    cases hx with
    | tup h1 _ _ h4 => exact ⟨_, _, rfl, .inr (SqT.of h1), h4⟩
  · cases e
    cases hx with
    | con h1 h4 =>
      refine ⟨_, _, rfl, .inr ?_, h4⟩
      rcases h1 with q | q
      · rcases q with q | ⟨_, q⟩ <;> cases q
      · exact .inr q
  · cases e
    cases hx with
    | scr h1 h4 => exact ⟨_, _, rfl, .inl (rdc_sq h1), h4⟩
  · split at e
    · rename_i q
      cases e
      obtain ⟨a, ha, _, xs, h1, h2⟩ := r.at_ q (by simp)
      exact ⟨a, xs, hx.ptr_ref ha, .inl (SqL.of h1), h2⟩
    · rename_i q
      cases e
      obtain ⟨a, ha, _, xs, o, h1, h2⟩ := r.at_ q (by simp)
      exact ⟨a, xs, hx.ptr_ref ha, .inl (.inl (.inr ⟨o, h1⟩)), h2⟩
    · cases e
  · cases e
/-- .. a list -/
theorem lst_rep {x : V} {d : D} {ds : List D} (r : RelS K hid ρ H mg S) (hx : Rep K hid ρ H x d) (e : seqOf d S = some ds) (nt : ∀ es, d ≠ .tup es) (nc : ∀ es, d ≠ .con es) : ∃ a xs, x = .ref a ∧ SqL K H a xs ∧ RepL K hid ρ H xs ds := by
  unfold seqOf at e
  split at e
  · cases e
    cases hx with
    | lst h1 _ _ h4 => exact ⟨_, _, rfl, SqL.of h1, h4⟩
  · exact absurd rfl (nt _)
  · exact absurd rfl (nc _)
  · cases e
    cases hx with
    | scr h1 h4 => exact ⟨_, _, rfl, rdc_sq h1, h4⟩
  · split at e
    · rename_i q
      cases e
      obtain ⟨a, ha, _, xs, h1, h2⟩ := r.at_ q (by simp)
      exact ⟨a, xs, hx.ptr_ref ha, SqL.of h1, h2⟩
    · rename_i q
      cases e
      obtain ⟨a, ha, _, xs, o, h1, h2⟩ := r.at_ q (by simp)
      exact ⟨a, xs, hx.ptr_ref ha, .inl (.inr ⟨o, h1⟩), h2⟩
    · cases e
  · cases e
end
section
variable {X : Cx} {W : WX} {σ : L2.St} {H : Hp} {c a b : CE} {e ea eb ec : PySem.Expr} {pos : Pos}
theorem opC (op : COp) (hu : X.A.units + 65 < cLine) : OpR X (compareOp (cmpOf op)) (rD X fun x y S => (cmpD op x y S).map .bl) := by
  intro pins s σ H x y v u Q I rx ry h
  obtain ⟨hid, ρ, S, dx, dy, d, r, hx, hy, hd, k⟩ := h
  obtain ⟨bb, hb, rfl⟩ := Option.map_eq_some_iff.mp hd
  have out : ∀ b' : Bool, b' = bb → Q (.bl b') H := fun b' e => by
    subst e; exact k ρ H _ Ext.refl r (.bl _)
  have twoI : ∀ o, (match dx with | .int i => (match dy with | .int j => cmpI o i j | _ => none) | _ => none) = some bb → ∃ i j, x = .int i ∧ y = .int j ∧ cmpI o i j = some bb := fun o h => by
    split at h
    · split at h
      · cases hx; cases hy
        exact ⟨_, _, rfl, rfl, h⟩
      · cases h
    · cases h
  cases op with
  | eq =>
    have hb : eqv dx dy = some bb := hb
    unfold eqv at hb
    split at hb
    · rename_i hf
      rcases Bool.or_eq_true_iff.mp hf with hf | hf
      · rw [Bool.and_eq_true] at hf
        obtain ⟨h1, h2⟩ := flat_eq hx hy hf.1 hf.2 hb
        exact op_eq pins s σ H x y v u Q I rx ry ⟨h1, out _ h2⟩
      · rw [Bool.and_eq_true] at hf
        exact op_eqD (by omega) pins s σ H x y v u Q I rx ry ⟨_, _, Rep.dp _ 50 hx hf.1, Rep.dp _ 50 hy hf.2, fit_shaped hf.1, fit_shaped hf.2, out _ (eqD_py _ _ hb)⟩
    · cases hb
  | ne =>
    have hb : (eqv dx dy).map (!·) = some bb := hb
    obtain ⟨b0, hb, h0⟩ := Option.map_eq_some_iff.mp hb
    unfold eqv at hb
    split at hb
    · rename_i hf
      rcases Bool.or_eq_true_iff.mp hf with hf | hf
      · rw [Bool.and_eq_true] at hf
        obtain ⟨h1, h2⟩ := flat_eq hx hy hf.1 hf.2 hb
        exact op_ne pins s σ H x y v u Q I rx ry ⟨h1, out _ (by rw [h2]; exact h0)⟩
      · rw [Bool.and_eq_true] at hf
        exact op_neD (by omega) pins s σ H x y v u Q I rx ry ⟨_, _, Rep.dp _ 50 hx hf.1, Rep.dp _ 50 hy hf.2, fit_shaped hf.1, fit_shaped hf.2, out _ (by rw [eqD_py _ _ hb]; exact h0)⟩
    · cases hb
  | lt =>
    obtain ⟨i, j, rfl, rfl, q⟩ := twoI .lt hb
    exact op_lt pins s σ H _ _ v u Q I rx ry ⟨i, j, rfl, rfl, out _ (by simpa [cmpI] using q)⟩
  | le =>
    obtain ⟨i, j, rfl, rfl, q⟩ := twoI .le hb
    exact op_le pins s σ H _ _ v u Q I rx ry ⟨i, j, rfl, rfl, out _ (by simpa [cmpI] using q)⟩
  | gt =>
    obtain ⟨i, j, rfl, rfl, q⟩ := twoI .gt hb
    exact op_gt pins s σ H _ _ v u Q I rx ry ⟨i, j, rfl, rfl, out _ (by simpa [cmpI] using q)⟩
  | ge =>
    obtain ⟨i, j, rfl, rfl, q⟩ := twoI .ge hb
    exact op_ge pins s σ H _ _ v u Q I rx ry ⟨i, j, rfl, rfl, out _ (by simpa [cmpI] using q)⟩
  | inn =>
    simp only [cmpD] at hb
    split at hb
    · obtain ⟨o, ho, h0⟩ := Option.map_eq_some_iff.mp hb
      obtain ⟨a, ov, rfl, g, q⟩ := dget_rep r hy hx ho
      cases ry
      have e : ov.isSome = bb := by
        rcases q with ⟨q1, q2⟩ | ⟨v, d, q1, q2, _⟩ <;> (rw [q1]; rw [q2] at h0; exact h0)
      exact d_in (by omega) I g rx fun s3 I3 => ⟨.bl ov.isSome, H, I3, rfl, out _ e⟩
    · split at hb
      · split at hb
        · cases hx; cases hy
          exact op_in_str pins s σ H _ _ v u Q I rx ry ⟨_, _, rfl, rfl, out _ (Option.some.inj hb)⟩
        · cases hb
      · split at hb
        · rename_i ds hs
          split at hb
          · rename_i hf
            obtain hf | ⟨hl, hf1, hf2⟩ := (by simpa using hf : ((flatD dx = true ∧ ∀ x ∈ ds, flatD x = true) ∨ (isLst dy = true ∧ dx.fit 50 = true ∧ fitL ds 50 = true)))
            · obtain ⟨a, xs, rfl, h1, h2⟩ := seq_rep r hy hs
              obtain ⟨m1, m2⟩ := flat_mem hx hf.1 h2 (List.all_eq_true.mpr hf.2) hb
              exact op_in_seq pins s σ H _ _ v u Q I rx ry ⟨a, xs, rfl, h1, hx.flat hf.1, m1, out _ (by simpa using m2)⟩
            · obtain ⟨a, xs, rfl, h1, h2⟩ := lst_rep r hy hs (fun es z => by subst z; cases hl) (fun es z => by subst z; cases hl)
              exact op_inD hu pins s σ H _ _ v u Q I rx ry ⟨_, _, Rep.dp _ 50 hx hf1, .lst h1 (RepL.dp _ 50 h2 hf2), fit_shaped hf1, fitL_shaped hf2, out _ (memD_py _ _ hb)⟩
          · cases hb
        · cases hb
  | notin =>
    simp only [cmpD] at hb
    split at hb
    · obtain ⟨o, ho, h0⟩ := Option.map_eq_some_iff.mp hb
      obtain ⟨a, ov, rfl, g, q⟩ := dget_rep r hy hx ho
      cases ry
      have e : (!ov.isSome) = bb := by
        rcases q with ⟨q1, q2⟩ | ⟨v, d, q1, q2, _⟩ <;> (rw [q1]; rw [q2] at h0; exact h0)
      exact d_notIn (by omega) I g rx fun s3 I3 => ⟨.bl (!ov.isSome), H, I3, rfl, out _ e⟩
    · split at hb
      · split at hb
        · cases hx; cases hy
          exact op_notIn_str pins s σ H _ _ v u Q I rx ry ⟨_, _, rfl, rfl, out _ (Option.some.inj hb)⟩
        · cases hb
      · split at hb
        · rename_i ds hs
          split at hb
          · rename_i hf
            obtain ⟨b0, hb, h0⟩ := Option.map_eq_some_iff.mp hb
            obtain hf | ⟨hl, hf1, hf2⟩ := (by simpa using hf : ((flatD dx = true ∧ ∀ x ∈ ds, flatD x = true) ∨ (isLst dy = true ∧ dx.fit 50 = true ∧ fitL ds 50 = true)))
            · obtain ⟨a, xs, rfl, h1, h2⟩ := seq_rep r hy hs
              obtain ⟨m1, m2⟩ := flat_mem hx hf.1 h2 (List.all_eq_true.mpr hf.2) hb
              exact op_notIn_seq pins s σ H _ _ v u Q I rx ry ⟨a, xs, rfl, h1, hx.flat hf.1, m1, out _ (by rw [m2]; exact h0)⟩
            · obtain ⟨a, xs, rfl, h1, h2⟩ := lst_rep r hy hs (fun es z => by subst z; cases hl) (fun es z => by subst z; cases hl)
              exact op_notInD hu pins s σ H _ _ v u Q I rx ry ⟨_, _, Rep.dp _ 50 hx hf1, .lst h1 (RepL.dp _ 50 h2 hf2), fit_shaped hf1, fitL_shaped hf2, out _ (by rw [memD_py _ _ hb]; exact h0)⟩
          · cases hb
        · cases hb
theorem go_cmp {op : COp} {Q : VK} (h : tE X W (.cmp op a b) σ H Q) : tOp (rD X fun x y S => (cmpD op x y S).map .bl) (tE X W a) (tE X W b) σ H Q := go_op (f := fun x y S => (cmpD op x y S).map .bl) h
theorem behind_not {env : Env} {e : PySem.Expr} (h : ∀ es k p, e ≠ .Set es k p) (op : CmpOp) : behindInMarks op e = false := by
  cases e <;> first | rfl | exact absurd rfl (h _ _ _)
theorem s_cmp {op : COp} (hu : X.A.units + 65 < cLine) (ha : PE X ea (tE X W a)) (hb : PE X eb (tE X W b)) (hm : behindInMarks (cmpOf op) eb = false) : PE X (.Compare ea [cmpOf op] [eb] pos) (tE X W (.cmp op a b)) :=
  PE.imp (pe_cmpR (opC op hu) ha hb hm) fun σ H Q h => go_cmp h
/-- a test, from the value's reading -/
theorem tt_of {Q : Bool → Hp → Prop} (h : tT X W c σ H Q) : tE X W c σ H fun v H' => ∃ k, v = .bl k ∧ Q k H' := by
  obtain ⟨hid, ρ, env, S, r, re, p⟩ := h
  refine ⟨hid, ρ, env, S, r, re, p.mono fun ρ1 H1 d S1 e1 r1 q v rv => ?_⟩
  obtain ⟨k, rfl, q⟩ := q
  cases rv
  exact ⟨k, rfl, q⟩
theorem t_cmp {op : COp} (hu : X.A.units + 65 < cLine) (ha : PE X ea (tE X W a)) (hb : PE X eb (tE X W b)) (hm : behindInMarks (cmpOf op) eb = false) : PT X (.Compare ea [cmpOf op] [eb] pos) (tT X W (.cmp op a b)) :=
  PT.imp (pt_cmpR (opC op hu) ha hb hm) fun σ H Q h => go_cmp (tt_of h)
theorem t_val (he : PE X e (tE X W c)) (h : ∀ whole, isTrue e X.env whole = (do let v ← whole; standAt e.pos; holding [v] (truthy v))) : PT X e (tT X W c) :=
  PT.imp (pt_val he h) fun σ H Q h => tt_of h
end
end MI
namespace MI
open PySem PySem.Spec L2
/-! ### argument lists -/
def isStar : PySem.Expr → Bool
  | .Starred _ _ => true
  | _ => false
theorem star_cons {e : PySem.Expr} (h : isStar e = false) (es : List PySem.Expr) (env : Env) : starEach (e :: es) env = (false, eval e env) :: starEach es env := by
  cases e <;> first | rfl | cases h
theorem star_none : ∀ {es : List PySem.Expr} (env : Env), (es.all fun e => !isStar e) = true → (starEach es env).any (·.1) = false
  | [], _, _ => rfl
  | e :: es, env, h => by
    have h' : isStar e = false ∧ (es.all fun e => !isStar e) = true := by simpa using h
    rw [star_cons h'.1, List.any_cons, star_none env h'.2]
    rfl
theorem back_none {l : List (Bool × Sem Value)} (pos : Pos) (h : l.any (·.1) = false) : (backTo pos l).any (·.1) = false := by
  unfold backTo
  rw [List.any_map]
  exact h
section
variable {X : Cx} {W : WX} {σ : L2.St} {H : Hp} {c a b : CE} {cs : CEs} {e ea eb ec : PySem.Expr} {es : List PySem.Expr} {pos : Pos}
theorem s_anil : PA X [] (tA X W .nil) := PA.imp pa_nil fun σ H Q h => by
  obtain ⟨hid, ρ, env, S, r, re, p⟩ := h
  exact p.here (S := S) r [] .nil
theorem s_acons (ha : PE X e (tE X W c)) (hr : PA X es (tA X W cs)) (hs : isStar e = false) : PA X (e :: es) (tA X W (.cons c cs)) := by
  refine PA.imp (pa_cons ha hr (star_cons hs _ _)) fun σ H Q h => ?_
  have h' : Go X W σ H (fun env S => (ev c env S).bind fun x S => (evs cs env S).bind fun xs S => Rs.ok (x :: xs) S) (fun hid ρ H' ds _ => ∀ vs, RepL X.K hid ρ H' vs ds → Q vs H') := h
  refine h'.bind fun hid ρ1 H1 x S1 env r1 e1 p1 v rv => ?_
  refine ⟨hid, ρ1, env, S1, r1, e1, p1.bind fun ρ2 H2 xs S2 ex r2 p2 vs rl => ?_⟩
  exact p2.here r2 _ (.cons (rv.mono ex) rl)
/-- so many items -/
def CEs.len : CEs → Nat
  | .nil => 0
  | .cons _ es => es.len + 1
theorem evs_len : ∀ (cs : CEs) {env : MEnv} {S S' : Store} {ds : List D}, evs cs env S = .ok ds S' → ds.length = cs.len
  | .nil, env, S, S', ds, h => by
    have h' : Rs.ok [] S = Rs.ok ds S' := h
    cases h'; rfl
  | .cons c cs, env, S, S', ds, h => by
    have h' : ((ev c env S).bind fun x S => (evs cs env S).bind fun xs S => Rs.ok (x :: xs) S) = .ok ds S' := h
    cases q : ev c env S with
    | ok x S1 =>
      rw [q] at h'
      have h2 : ((evs cs env S1).bind fun xs S => Rs.ok (x :: xs) S) = .ok ds S' := h'
      cases q2 : evs cs env S1 with
      | ok xs S2 =>
        rw [q2] at h2
        have h3 : Rs.ok (x :: xs) S2 = Rs.ok ds S' := h2
        cases h3
        rw [List.length_cons, evs_len cs q2]; rfl
      | ex _ _ _ => rw [q2] at h2; cases h2
      | stuck => rw [q2] at h2; cases h2
    | ex _ _ _ => rw [q] at h'; cases h'
    | stuck => rw [q] at h'; cases h'
/-- the items of a display, with their number -/
theorem args_len {Q : List V → Hp → Prop} (hl : cs.len ≤ 1000000) (h : Go X W σ H (evs cs) fun hid ρ H' ds S => ds.length ≤ 1000000 → ∀ vs, RepL X.K hid ρ H' vs ds → Q vs H') : tA X W cs σ H Q := by
  obtain ⟨hid, ρ, env, S, r, re, p⟩ := h
  refine ⟨hid, ρ, env, S, r, re, ?_⟩
  cases q : evs cs env S with
  | ok ds S' =>
    rw [q] at p
    exact fun ρ' H' e' r' => p ρ' H' e' r' (by rw [evs_len cs q]; exact hl)
  | ex _ _ _ => rw [q] at p; exact p
  | stuck => rw [q] at p; exact p
theorem s_tup {k : Nat} (hl : cs.len ≤ 1000000) (ha : PA X es (tA X W cs)) : PE X (.Tuple es k pos) (tE X W (.tup cs)) := by
  refine PE.imp (pe_tup ha) fun σ H Q h => ?_
  have h' : Go X W σ H (fun env S => (evs cs env S).bind fun ds S => Rs.ok (D.tup ds) S) (fun hid ρ H' d _ => ∀ v, Rep X.K hid ρ H' v d → Q v H') := h
  refine args_len hl (h'.bind fun hid ρ1 H1 ds S1 env r1 e1 p1 hz vs rl => ?_)
  refine ⟨le_line (by rw [rl.length]; exact hz), fun p hp => ?_⟩
  obtain ⟨q1, q2, q3⟩ := new_tup r1 rl hp
  exact p1 _ _ q1 q2 _ q3
theorem s_disp (hl : cs.len ≤ 1000000) (ha : PA X es (tA X W cs)) : PE X (.List es pos) (tL X W (.disp cs)) := by
  refine PE.imp (pe_lst ha) fun σ H Q h => ?_
  have h' : Go X W σ H (fun env S => evs cs env S) (fun hid ρ H' ds _ => ∀ xs p, RepL X.K hid ρ H' xs ds → H' p = none → Q (.ref p) (upd H' p (.lst xs))) := h
  refine args_len hl ?_
  obtain ⟨hid, ρ, env, S, r, re, p⟩ := h'
  refine ⟨hid, ρ, env, S, r, re, p.mono fun ρ1 H1 ds S1 e1 r1 q hz vs rl => ?_⟩
  exact ⟨le_line (by rw [rl.length]; exact hz), fun p hp => q vs p rl hp⟩
theorem s_new {m : Bool} {l : CL} (h : PE X e (tL X W l)) : PE X e (tE X W (.new m l)) := by
  refine PE.imp h fun σ H Q hq => ?_
  have h' : Go X W σ H (fun env S => (evL l env S).bind fun ds S => newL m ds S) (fun hid ρ H' d _ => ∀ v, Rep X.K hid ρ H' v d → Q v H') := hq
  refine h'.bind fun hid ρ1 H1 ds S1 env r1 e1 p1 xs p rl hp => ?_
  cases m with
  | false =>
    obtain ⟨q1, q2, q3⟩ := new_lst r1 rl hp
    have p1' : Post X.K X.mg hid ρ1 H1 (Rs.ok (D.lst ds) S1) (fun ρ H' d _ => ∀ v, Rep X.K hid ρ H' v d → Q v H') (fun cls d H' => W cls d σ H') := p1
    exact p1' _ _ q1 q2 _ q3
  | true =>
    have p1' : Post X.K X.mg hid ρ1 H1 (if ltL ds S1.length then Rs.ok (D.ptr S1.length) (S1 ++ [.lst ds]) else Rs.stuck) (fun ρ H' d _ => ∀ v, Rep X.K hid ρ H' v d → Q v H') (fun cls d H' => W cls d σ H') := p1
    split at p1'
    · rename_i hl
      have ex := r1.ext_push (o := HO.lst xs) hp
      obtain ⟨q1, q2⟩ := r1.push (o := HO.lst xs) (c := .lst ds) hp ⟨hl, xs, upd_same, rl.mono ex⟩
      refine p1' _ _ q1 q2 _ (.ptr ?_ fun a ha => ?_)
      · rw [List.length_append, r1.len]; exact Nat.lt_succ_self _
      · rw [← r1.len] at ha
        simp at ha
        rw [ha]
    · exact p1'.elim
theorem s_dnew : PE X (.Dict [] [] pos) (tE X W (.dnew false)) := by
  refine PE.imp pe_dnewK fun σ H Q h p hp => ?_
  obtain ⟨hid, ρ, env, S, r, re, q⟩ := h
  have q' : Post X.K X.mg hid ρ H (Rs.ok (D.ptr S.length) (S ++ [Cell.dK []])) (fun ρ H' d _ => ∀ v, Rep X.K hid ρ H' v d → Q v H') (fun cls d H' => W cls d σ H') := q
  obtain ⟨q1, q2⟩ := r.push (o := HO.dK []) (c := .dK []) hp ⟨fun _ z => by simp at z, [], upd_same, .nil⟩
  refine q' _ _ q1 q2 _ (.ptr ?_ fun a ha => ?_)
  · rw [List.length_append, r.len]; exact Nat.lt_succ_self _
  · rw [← r.len] at ha
    simp at ha
    rw [ha]
theorem s_dnewT : PE X (.Dict [] [] pos) (tE X W (.dnew true)) := by
  refine PE.imp pe_dnewT fun σ H Q h p hp => ?_
  obtain ⟨hid, ρ, env, S, r, re, q⟩ := h
  have q' : Post X.K X.mg hid ρ H (Rs.ok (D.ptr S.length) (S ++ [Cell.dT []])) (fun ρ H' d _ => ∀ v, Rep X.K hid ρ H' v d → Q v H') (fun cls d H' => W cls d σ H') := q
  obtain ⟨q1, q2⟩ := r.push (o := HO.dT []) (c := .dT []) hp ⟨fun _ z => by simp at z, [], upd_same, .nil⟩
  refine q' _ _ q1 q2 _ (.ptr ?_ fun a ha => ?_)
  · rw [List.length_append, r.len]; exact Nat.lt_succ_self _
  · rw [← r.len] at ha
    simp at ha
    rw [ha]
/-! ### truth -/
theorem s_not (ha : PE X ea (tE X W a)) : PE X (.UnaryOp .Not ea pos) (tE X W (.not a)) := by
  refine PE.imp (pe_not ha) fun σ H Q h => ?_
  have h' : Go X W σ H (fun env S => (ev a env S).bind fun x S => (match x with | D.bl b => Rs.ok (D.bl (!b)) S | _ => Rs.stuck)) (fun hid ρ H' d _ => ∀ v, Rep X.K hid ρ H' v d → Q v H') := h
  refine h'.bind fun hid ρ1 H1 x S1 env r1 e1 p1 v rv => ?_
  split at p1
  · cases rv
    exact ⟨_, rfl, p1.here r1 _ (.bl _)⟩
  · exact p1.elim
theorem t_not (ha : PT X ea (tT X W a)) : PT X (.UnaryOp .Not ea pos) (tT X W (.not a)) := by
  refine PT.imp (pt_not ha) fun σ H Q h => ?_
  have h' : Go X W σ H (fun env S => (ev a env S).bind fun x S => (match x with | D.bl b => Rs.ok (D.bl (!b)) S | _ => Rs.stuck)) (fun _ _ H' d _ => ∃ b, d = D.bl b ∧ Q b H') := h
  refine h'.bind fun hid ρ1 H1 x S1 env r1 e1 p1 => ?_
  split at p1
  · rename_i b
    obtain ⟨b', e, q⟩ := p1.here r1
    cases e
    exact ⟨b, rfl, q⟩
  · exact p1.elim
theorem isNon_rep {hid : List Addr} {ρ : Rho} {S : Store} {v : V} {d : D} {b : Bool} (r : RelS X.K hid ρ H X.mg S) (h : Rep X.K hid ρ H v d) (e : isNon d S = some b) : decide (v = .non) = b := by
  unfold isNon at e
  split at e
  · cases h; cases e; rfl
  · rename_i n
    split at e
    · cases e
    · rename_i c hc q
      cases e
      obtain ⟨a, ha, _⟩ := r.at_ q hc
      rw [h.ptr_ref ha]; rfl
    · cases e
  · rename_i h1 h2
    cases e
    cases d <;> first | (cases h; rfl) | exact absurd rfl (h1) | exact absurd rfl (h2 _)
theorem s_isN {j : Nat} {pos' : Pos} (ha : PE X ea (tE X W a)) : PE X (.Compare ea [.Is] [.Constant .none j pos'] pos) (tE X W (.isN a)) := by
  refine PE.imp (pe_cmp (pc_isN ha) rfl) fun σ H Q h => ?_
  have h' : Go X W σ H (fun env S => (ev a env S).bind fun x S => Rs.of ((isNon x S).map D.bl) S) (fun hid ρ H' d _ => ∀ v, Rep X.K hid ρ H' v d → Q v H') := h
  refine h'.bind fun hid ρ1 H1 x S1 env r1 e1 p1 v rv => ?_
  obtain ⟨d, hd, k⟩ := p1.of
  obtain ⟨b, hb, rfl⟩ := Option.map_eq_some_iff.mp hd
  rw [isNon_rep r1 rv hb]
  exact k _ _ Ext.refl r1 _ (.bl _)
theorem s_notN {j : Nat} {pos' : Pos} (ha : PE X ea (tE X W a)) : PE X (.Compare ea [.IsNot] [.Constant .none j pos'] pos) (tE X W (.notN a)) := by
  refine PE.imp (pe_cmp (pc_notN ha) rfl) fun σ H Q h => ?_
  have h' : Go X W σ H (fun env S => (ev a env S).bind fun x S => Rs.of ((isNon x S).map fun b => D.bl (!b)) S) (fun hid ρ H' d _ => ∀ v, Rep X.K hid ρ H' v d → Q v H') := h
  refine h'.bind fun hid ρ1 H1 x S1 env r1 e1 p1 v rv => ?_
  obtain ⟨d, hd, k⟩ := p1.of
  obtain ⟨b, hb, rfl⟩ := Option.map_eq_some_iff.mp hd
  rw [isNon_rep r1 rv hb]
  exact k _ _ Ext.refl r1 _ (.bl _)
theorem t_isN {j : Nat} {pos' : Pos} (ha : PE X ea (tE X W a)) : PT X (.Compare ea [.Is] [.Constant .none j pos'] pos) (tT X W (.isN a)) := by
  refine PT.imp (pt_cmp (pc_isN ha) rfl) fun σ H Q h => ?_
  have h' : Go X W σ H (fun env S => (ev a env S).bind fun x S => Rs.of ((isNon x S).map D.bl) S) (fun _ _ H' d _ => ∃ b, d = D.bl b ∧ Q b H') := h
  refine h'.bind fun hid ρ1 H1 x S1 env r1 e1 p1 v rv => ?_
  obtain ⟨d, hd, k⟩ := p1.of
  obtain ⟨b, hb, rfl⟩ := Option.map_eq_some_iff.mp hd
  rw [isNon_rep r1 rv hb]
  obtain ⟨b', e, q⟩ := k _ _ Ext.refl r1
  cases e
  exact ⟨b, rfl, q⟩
theorem t_notN {j : Nat} {pos' : Pos} (ha : PE X ea (tE X W a)) : PT X (.Compare ea [.IsNot] [.Constant .none j pos'] pos) (tT X W (.notN a)) := by
  refine PT.imp (pt_cmp (pc_notN ha) rfl) fun σ H Q h => ?_
  have h' : Go X W σ H (fun env S => (ev a env S).bind fun x S => Rs.of ((isNon x S).map fun b => D.bl (!b)) S) (fun _ _ H' d _ => ∃ b, d = D.bl b ∧ Q b H') := h
  refine h'.bind fun hid ρ1 H1 x S1 env r1 e1 p1 v rv => ?_
  obtain ⟨d, hd, k⟩ := p1.of
  obtain ⟨b, hb, rfl⟩ := Option.map_eq_some_iff.mp hd
  rw [isNon_rep r1 rv hb]
  obtain ⟨b', e, q⟩ := k _ _ Ext.refl r1
  cases e
  exact ⟨!b, rfl, q⟩
/-- and, or: a row of parts -/
def tAndS (X : Cx) (W : WX) (cs : CEs) : TE := fun σ H Q => Go X W σ H (evAnd cs) fun hid ρ H' d _ => ∀ v, Rep X.K hid ρ H' v d → Q v H'
def tOrS (X : Cx) (W : WX) (cs : CEs) : TE := fun σ H Q => Go X W σ H (evOr cs) fun hid ρ H' d _ => ∀ v, Rep X.K hid ρ H' v d → Q v H'
def tAndT (X : Cx) (W : WX) (cs : CEs) : TT := fun σ H Q => Go X W σ H (evAnd cs) fun _ _ H' d _ => ∃ b, d = .bl b ∧ Q b H'
def tOrT (X : Cx) (W : WX) (cs : CEs) : TT := fun σ H Q => Go X W σ H (evOr cs) fun _ _ H' d _ => ∃ b, d = .bl b ∧ Q b H'
theorem s_and1 (ha : PE X e (tE X W c)) : PE X (.BoolOp .And [e] pos) (tAndS X W (.cons c .nil)) := by
  refine PE.imp (pe_one ha) fun σ H Q h => ?_
  have h' : Go X W σ H (fun env S => (ev c env S).bind fun x S => (match x with | D.bl b => Rs.ok (D.bl b) S | _ => Rs.stuck)) (fun hid ρ H' d _ => ∀ v, Rep X.K hid ρ H' v d → Q v H') := h
  refine h'.bind fun hid ρ1 H1 x S1 env r1 e1 p1 v rv => ?_
  split at p1
  · exact p1.here r1 v rv
  · exact p1.elim
theorem s_or1 (ha : PE X e (tE X W c)) : PE X (.BoolOp .Or [e] pos) (tOrS X W (.cons c .nil)) := by
  refine PE.imp (pe_one ha) fun σ H Q h => ?_
  have h' : Go X W σ H (fun env S => (ev c env S).bind fun x S => (match x with | D.bl b => Rs.ok (D.bl b) S | _ => Rs.stuck)) (fun hid ρ H' d _ => ∀ v, Rep X.K hid ρ H' v d → Q v H') := h
  refine h'.bind fun hid ρ1 H1 x S1 env r1 e1 p1 v rv => ?_
  split at p1
  · exact p1.here r1 v rv
  · exact p1.elim
theorem s_andc {c2 : CE} {e2 : PySem.Expr} (ha : PE X e (tE X W c)) (hb : PE X (.BoolOp .And (e2 :: es) pos) (tAndS X W (.cons c2 cs))) : PE X (.BoolOp .And (e :: e2 :: es) pos) (tAndS X W (.cons c (.cons c2 cs))) := by
  refine PE.imp (pe_and ha hb) fun σ H Q h => ?_
  have h' : Go X W σ H (fun env S => (ev c env S).bind fun x S => (match x with | D.bl true => evAnd (.cons c2 cs) env S | D.bl false => Rs.ok (D.bl false) S | _ => Rs.stuck)) (fun hid ρ H' d _ => ∀ v, Rep X.K hid ρ H' v d → Q v H') := h
  refine h'.bind fun hid ρ1 H1 x S1 env r1 e1 p1 v rv => ?_
  split at p1
  · cases rv
    exact ⟨true, rfl, hid, ρ1, env, S1, r1, e1, p1⟩
  · cases rv
    exact ⟨false, rfl, p1.here r1 _ (.bl _)⟩
  · exact p1.elim
theorem s_orc {c2 : CE} {e2 : PySem.Expr} (ha : PE X e (tE X W c)) (hb : PE X (.BoolOp .Or (e2 :: es) pos) (tOrS X W (.cons c2 cs))) : PE X (.BoolOp .Or (e :: e2 :: es) pos) (tOrS X W (.cons c (.cons c2 cs))) := by
  refine PE.imp (pe_or ha hb) fun σ H Q h => ?_
  have h' : Go X W σ H (fun env S => (ev c env S).bind fun x S => (match x with | D.bl false => evOr (.cons c2 cs) env S | D.bl true => Rs.ok (D.bl true) S | _ => Rs.stuck)) (fun hid ρ H' d _ => ∀ v, Rep X.K hid ρ H' v d → Q v H') := h
  refine h'.bind fun hid ρ1 H1 x S1 env r1 e1 p1 v rv => ?_
  split at p1
  · cases rv
    exact ⟨false, rfl, hid, ρ1, env, S1, r1, e1, p1⟩
  · cases rv
    exact ⟨true, rfl, p1.here r1 _ (.bl _)⟩
  · exact p1.elim
theorem t_and1 (ha : PT X e (tT X W c)) : PW X (.BoolOp .And [e] pos) (tAndT X W (.cons c .nil)) := by
  have h0 : PT X e (tAndT X W (.cons c .nil)) := PT.imp ha fun σ H Q h => by
    have h' : Go X W σ H (fun env S => (ev c env S).bind fun x S => (match x with | D.bl b => Rs.ok (D.bl b) S | _ => Rs.stuck)) (fun _ _ H' d _ => ∃ b, d = D.bl b ∧ Q b H') := h
    refine h'.bind fun hid ρ1 H1 x S1 env r1 e1 p1 => ?_
    split at p1
    · exact p1.here r1
    · exact p1.elim
  exact pw_and1 h0
theorem t_or1 (ha : PT X e (tT X W c)) : PW X (.BoolOp .Or [e] pos) (tOrT X W (.cons c .nil)) := by
  have h0 : PT X e (tOrT X W (.cons c .nil)) := PT.imp ha fun σ H Q h => by
    have h' : Go X W σ H (fun env S => (ev c env S).bind fun x S => (match x with | D.bl b => Rs.ok (D.bl b) S | _ => Rs.stuck)) (fun _ _ H' d _ => ∃ b, d = D.bl b ∧ Q b H') := h
    refine h'.bind fun hid ρ1 H1 x S1 env r1 e1 p1 => ?_
    split at p1
    · exact p1.here r1
    · exact p1.elim
  exact pw_or1 h0
theorem PW.imp {e : PySem.Expr} {t t' : TT} (h : PW X e t) (w : ∀ σ H Q, t' σ H Q → t σ H Q) : PW X e t' := ⟨fun wh pins s σ H Q I hw => h.run wh pins s σ H Q I (w σ H Q hw)⟩
theorem t_andc {c2 : CE} {e2 : PySem.Expr} (ha : PT X e (tT X W c)) (hb : PW X (.BoolOp .And (e2 :: es) pos) (tAndT X W (.cons c2 cs))) : PW X (.BoolOp .And (e :: e2 :: es) pos) (tAndT X W (.cons c (.cons c2 cs))) := by
  refine PW.imp (pw_and ha hb) fun σ H Q h => ?_
  have h' : Go X W σ H (fun env S => (ev c env S).bind fun x S => (match x with | D.bl true => evAnd (.cons c2 cs) env S | D.bl false => Rs.ok (D.bl false) S | _ => Rs.stuck)) (fun _ _ H' d _ => ∃ b, d = D.bl b ∧ Q b H') := h
  refine h'.bind fun hid ρ1 H1 x S1 env r1 e1 p1 => ?_
  split at p1
  · exact ⟨true, rfl, hid, ρ1, env, S1, r1, e1, p1⟩
  · obtain ⟨b, e, q⟩ := p1.here r1
    cases e
    exact ⟨false, rfl, q⟩
  · exact p1.elim
theorem t_orc {c2 : CE} {e2 : PySem.Expr} (ha : PT X e (tT X W c)) (hb : PW X (.BoolOp .Or (e2 :: es) pos) (tOrT X W (.cons c2 cs))) : PW X (.BoolOp .Or (e :: e2 :: es) pos) (tOrT X W (.cons c (.cons c2 cs))) := by
  refine PW.imp (pw_or ha hb) fun σ H Q h => ?_
  have h' : Go X W σ H (fun env S => (ev c env S).bind fun x S => (match x with | D.bl false => evOr (.cons c2 cs) env S | D.bl true => Rs.ok (D.bl true) S | _ => Rs.stuck)) (fun _ _ H' d _ => ∃ b, d = D.bl b ∧ Q b H') := h
  refine h'.bind fun hid ρ1 H1 x S1 env r1 e1 p1 => ?_
  split at p1
  · exact ⟨false, rfl, hid, ρ1, env, S1, r1, e1, p1⟩
  · obtain ⟨b, e, q⟩ := p1.here r1
    cases e
    exact ⟨true, rfl, q⟩
  · exact p1.elim
theorem s_ite (hc : PT X ec (tT X W c)) (ha : PE X ea (tE X W a)) (hb : PE X eb (tE X W b)) : PE X (.IfExp ec ea eb pos) (tE X W (.ite c a b)) := by
  refine PE.imp (pe_ifExp hc ha hb) fun σ H Q h => ?_
  have h' : Go X W σ H (fun env S => (ev c env S).bind fun x S => (match x with | D.bl true => ev a env S | D.bl false => ev b env S | _ => Rs.stuck)) (fun hid ρ H' d _ => ∀ v, Rep X.K hid ρ H' v d → Q v H') := h
  refine h'.bind fun hid ρ1 H1 x S1 env r1 e1 p1 => ?_
  split at p1
  · exact ⟨true, rfl, hid, ρ1, env, S1, r1, e1, p1⟩
  · exact ⟨false, rfl, hid, ρ1, env, S1, r1, e1, p1⟩
  · exact p1.elim
/-! ### a op b op c -/
theorem last_none {op op' : CmpOp} {eb ec : PySem.Expr} (h : behindInMarks op' ec = false) : lastMarks [op, op'] [eb, ec] = false := h
theorem go_chain {op op' : COp} {R : List Addr → Rho → Hp → D → Store → Prop} {Q : VK} (hR : ∀ hid ρ H' d S', R hid ρ H' d S' → ∀ v, Rep X.K hid ρ H' v d → Q v H') (h : Go X W σ H (ev (.chain op op' a b c)) R) :
    tChain (rD X fun x y S => (cmpD op x y S).map .bl) (rD X fun x y S => (cmpD op' x y S).map .bl) (tE X W a) (tE X W b) (tE X W c) σ H Q := by
  have h' : Go X W σ H (fun env S => (ev a env S).bind fun x S => (ev b env S).bind fun y S => (match cmpD op x y S with
    | some true => (ev c env S).bind fun z S => Rs.of ((cmpD op' y z S).map .bl) S
    | some false => Rs.ok (D.bl false) S
    | none => Rs.stuck)) R := h
  refine h'.bind fun hid ρ1 H1 dx S1 env r1 e1 p1 x rx => ?_
  refine ⟨hid, ρ1, env, S1, r1, e1, p1.bind fun ρ2 H2 dy S2 ex r2 p2 y ry => ?_⟩
  split at p2
  · rename_i q
    refine ⟨hid, ρ2, S2, dx, dy, .bl true, r2, rx.mono ex, ry, by show Option.map D.bl (cmpD op dx dy S2) = _; rw [q]; rfl, fun ρ3 H3 v ex3 r3 rv => ?_⟩
    cases rv
    refine ⟨true, rfl, ?_⟩
    rw [if_pos rfl]
    refine ⟨hid, ρ3, env, S2, r3, (e1.mono ex).mono ex3, (p2.ext ex3).bind fun ρ4 H4 dz S4 ex4 r4 p4 z rz => ?_⟩
    obtain ⟨d, hd, k⟩ := p4.of
    exact ⟨hid, ρ4, S4, dy, dz, d, r4, (ry.mono ex3).mono ex4, rz, hd, fun ρ' H' v e' r' rv => hR _ _ _ _ _ (k ρ' H' e' r') v rv⟩
  · rename_i q
    refine ⟨hid, ρ2, S2, dx, dy, .bl false, r2, rx.mono ex, ry, by show Option.map D.bl (cmpD op dx dy S2) = _; rw [q]; rfl, fun ρ3 H3 v ex3 r3 rv => ?_⟩
    cases rv
    refine ⟨false, rfl, ?_⟩
    rw [if_neg Bool.false_ne_true]
    exact hR _ _ _ _ _ ((p2.ext ex3).here r3) _ (.bl _)
  · exact p2.elim
theorem s_chain {op op' : COp} (hu : X.A.units + 65 < cLine) (ha : PE X ea (tE X W a)) (hb : PE X eb (tE X W b)) (hc : PE X ec (tE X W c)) (hm : behindInMarks (cmpOf op') ec = false) :
    PE X (.Compare ea [cmpOf op, cmpOf op'] [eb, ec] pos) (tE X W (.chain op op' a b c)) :=
  PE.imp (pe_chain (opC op hu) (opC op' hu) ha hb hc (last_none hm)) fun σ H Q h => go_chain (fun _ _ _ _ _ q => q) h
theorem t_chain {op op' : COp} (hu : X.A.units + 65 < cLine) (ha : PE X ea (tE X W a)) (hb : PE X eb (tE X W b)) (hc : PE X ec (tE X W c)) (hm : behindInMarks (cmpOf op') ec = false) :
    PT X (.Compare ea [cmpOf op, cmpOf op'] [eb, ec] pos) (tT X W (.chain op op' a b c)) :=
  PT.imp (pt_chain (opC op hu) (opC op' hu) ha hb hc (last_none hm)) fun σ H Q h => by
    refine go_chain (Q := fun z H3 => ∃ k, z = .bl k ∧ Q k H3) (fun hid ρ H' d S' q v rv => ?_) h
    obtain ⟨b, e, q⟩ := q
    subst e
    cases rv
    exact ⟨b, rfl, q⟩
theorem plain_test {e : PySem.Expr} {env : Env} (h : (match e with | .UnaryOp .Not _ _ => false | .BoolOp _ _ _ => false | .IfExp _ _ _ _ => false | .Compare _ _ _ _ => false | _ => true) = true) :
    ∀ whole, isTrue e env whole = (do let v ← whole; standAt e.pos; holding [v] (truthy v)) := by
  intro whole
  cases e <;> first | rfl | (simp at h; done) | skip
  rename_i op _ _
  cases op <;> first | rfl | simp at h
end
end MI
namespace MI
open PySem PySem.Spec L2
section
variable {K : PySem.W.Frag} {mg : Str → Option Value} {hid : List Addr} {ρ : Rho} {H : Hp} {S : Store}
theorem asInts_rep : ∀ {ds : List D} {vs : List V} {ns : List Int}, RepL K hid ρ H vs ds → asInts ds = some ns → vs = ns.map V.int
  | [], _, ns, h, e => by cases h; simp [asInts] at e; subst e; rfl
  | d :: ds, _, ns, h, e => by
    cases h with
    | cons h1 h2 =>
      simp only [asInts] at e
      split at e
      · obtain ⟨ms, hm, rfl⟩ := Option.map_eq_some_iff.mp e
        cases h1
        rw [asInts_rep h2 hm]; rfl
      · cases e
theorem asBls_rep : ∀ {ds : List D} {vs : List V} {ns : List Bool}, RepL K hid ρ H vs ds → asBls ds = some ns → vs = ns.map V.bl
  | [], _, ns, h, e => by cases h; simp [asBls] at e; subst e; rfl
  | d :: ds, _, ns, h, e => by
    cases h with
    | cons h1 h2 =>
      simp only [asBls] at e
      split at e
      · obtain ⟨ms, hm, rfl⟩ := Option.map_eq_some_iff.mp e
        cases h1
        rw [asBls_rep h2 hm]; rfl
      · cases e
def tyName : Nat → String
  | 0 => "NoneType" | 1 => "bool" | 2 => "int" | 3 => "str" | 4 => "tuple" | _ => "list"
theorem kind_rep {v : V} {d : D} {k : Nat} (r : RelS K hid ρ H mg S) (h : Rep K hid ρ H v d) (e : kindD d S = some k) : TyX K H v (.type (tyName k)) ∧ k ≤ 5 := by
  unfold kindD at e
  split at e
  · cases e; cases h; exact ⟨.base .non, by decide⟩
  · cases e; cases h; exact ⟨.base (.bl _), by decide⟩
  · cases e; cases h; exact ⟨.base (.int _), by decide⟩
  · cases e; cases h; exact ⟨.base (.str _), by decide⟩
  · cases e
    cases h with
    | tup h1 _ _ _ => exact ⟨.base (.tup h1), by decide⟩
  · cases e
    cases h with
    | lst h1 _ _ _ => exact ⟨.base (.lst h1), by decide⟩
  · cases e
  · cases e
  · split at e
    · rename_i q
      cases e
      obtain ⟨a, ha, _, xs, h1, h2⟩ := r.at_ q (by simp)
      rw [h.ptr_ref ha]
      exact ⟨.base (.lst h1), by decide⟩
    · cases e
end
section
variable {X : Cx} {W : WX} {σ : L2.St} {H : Hp} {c a b : CE} {cs : CEs} {e ea eb ec : PySem.Expr} {es : List PySem.Expr} {p pos : Pos}
def rB (X : Cx) (f : List D → Store → Option D) : List V → Hp → VK → Prop := fun vs H Q => ∃ hid ρ S ds d, RelS X.K hid ρ H X.mg S ∧ RepL X.K hid ρ H vs ds ∧ f ds S = some d ∧
  ∀ ρ' H' v, Ext ρ H ρ' H' → RelS X.K hid ρ' H' X.mg S → Rep X.K hid ρ' H' v d → Q v H'
theorem one_arg {f : BFn} {S : Store} {ds : List D} {d : D} {hid : List Addr} {ρ : Rho} {vs : List V} (hf : ∀ x y, bi2 f x y = none) (h : RepL X.K hid ρ H vs ds) (e : biD f ds S = some d) : ∃ x dx, vs = [x] ∧ ds = [dx] ∧ Rep X.K hid ρ H x dx ∧ bi1 f dx S = some d := by
  unfold biD at e
  split at e
  · cases h with
    | cons h1 h2 => cases h2; exact ⟨_, _, rfl, rfl, h1, e⟩
  · rw [hf] at e; cases e
  · cases e
theorem two_args {f : BFn} {S : Store} {ds : List D} {d : D} {hid : List Addr} {ρ : Rho} {vs : List V} (hf : ∀ x, bi1 f x S = none) (h : RepL X.K hid ρ H vs ds) (e : biD f ds S = some d) : ∃ x y dx dy, vs = [x, y] ∧ ds = [dx, dy] ∧ Rep X.K hid ρ H x dx ∧ Rep X.K hid ρ H y dy ∧ bi2 f dx dy = some d := by
  unfold biD at e
  split at e
  · rw [hf] at e; cases e
  · cases h with
    | cons h1 h2 =>
      cases h2 with
      | cons h3 h4 => cases h4; exact ⟨_, _, _, _, rfl, rfl, h1, h3, e⟩
  · cases e
def biVal : BFn → Value
  | .abs => .builtin "abs" | .max2 => .builtin "max" | .min2 => .builtin "min" | .int => .type "int" | .len => .builtin "len" | .tuple => .type "tuple" | .sum => .builtin "sum" | .any => .builtin "any" | .all => .builtin "all"
  | .ord => .builtin "ord" | .str => .type "str" | .max1 => .builtin "max" | _ => .none
def biName : BFn → Str
  | .abs => "abs" | .max2 => "max" | .min2 => "min" | .int => "int" | .len => "len" | .tuple => "tuple" | .sum => "sum" | .any => "any" | .all => "all"
  | .ord => "ord" | .str => "str" | .max1 => "max" | _ => "isinstance"
def biCall : BFn → Bool
  | .abs => true | .max2 => true | .min2 => true | .int => true | .len => true | .tuple => true | .sum => true | .any => true | .all => true | .ord => true | .str => true | .max1 => true | _ => false
theorem list_max {ns : List Int} {m : Int} (h : ns.max? = some m) : 0 < ns.length ∧ m ∈ ns ∧ ∀ y ∈ ns, y ≤ m := by
  have h1 := List.max?_eq_some_iff.mp h
  refine ⟨?_, h1.1, h1.2⟩
  cases ns with
  | nil => simp at h
  | cons _ _ => simp
theorem cB (hc : X.calm = true) (hu : X.A.units + 65 < cLine) : ∀ f : BFn, biCall f = true → CallR X (biVal f) (rB X (biD f)) := by
  intro f hf pins s σ H vs us Q I r h
  obtain ⟨hid, ρ, S, ds, d, rs, rl, e, k⟩ := h
  have out : ∀ d', d' = d → ∀ v, Rep X.K hid ρ H v d' → Q v H := fun d' z v rv => by subst z; exact k _ _ _ Ext.refl rs rv
  cases f with
  | abs =>
    obtain ⟨x, dx, rfl, rfl, rx, e1⟩ := one_arg (fun _ _ => rfl) rl e
    simp only [bi1] at e1
    split at e1
    · cases rx
      exact call_abs pins s σ H _ us Q I r ⟨_, rfl, out _ (Option.some.inj e1) _ (.int _)⟩
    · cases e1
  | max2 =>
    obtain ⟨x, y, dx, dy, rfl, rfl, rx, ry, e1⟩ := two_args (fun _ => rfl) rl e
    simp only [bi2] at e1
    split at e1
    · split at e1
      · cases rx; cases ry
        exact call_max2 hc pins s σ H _ us Q I r ⟨_, _, rfl, out _ (Option.some.inj e1) _ (.int _)⟩
      · cases e1
    · cases e1
  | min2 =>
    obtain ⟨x, y, dx, dy, rfl, rfl, rx, ry, e1⟩ := two_args (fun _ => rfl) rl e
    simp only [bi2] at e1
    split at e1
    · split at e1
      · cases rx; cases ry
        exact call_min2 hc pins s σ H _ us Q I r ⟨_, _, rfl, out _ (Option.some.inj e1) _ (.int _)⟩
      · cases e1
    · cases e1
  | int =>
    obtain ⟨x, dx, rfl, rfl, rx, e1⟩ := one_arg (fun _ _ => rfl) rl e
    simp only [bi1] at e1
    split at e1
    · cases rx
      exact call_int1 pins s σ H _ us Q I r (.inl ⟨_, rfl, out _ (Option.some.inj e1) _ (.int _)⟩)
    · cases rx
      exact call_int1 pins s σ H _ us Q I r (.inr ⟨_, rfl, out _ (Option.some.inj e1) _ (.int _)⟩)
    · split at e1
      · rename_i hz
        split at e1
        · rename_i n hn
          cases rx
          exact call_int_str pins s σ H _ us Q I r ⟨_, n, rfl, hn, hz, out _ (Option.some.inj e1) _ (.int _)⟩
        · cases e1
      · cases e1
    · cases e1
  | len =>
    obtain ⟨x, dx, rfl, rfl, rx, e1⟩ := one_arg (fun _ _ => rfl) rl e
    simp only [bi1] at e1
    obtain ⟨n, hn, rfl⟩ := Option.map_eq_some_iff.mp e1
    have seq : ∀ (dd : D), dx = dd → (seqOf dd S).map List.length = some n → wpAny (model X.prog X.w) X.A (call (biVal .len) us) (EP X pins σ Q) X.xe s := fun dd z hs => by
      subst z
      obtain ⟨es, he, rfl⟩ := Option.map_eq_some_iff.mp hs
      obtain ⟨a, xs, rfl, h1, h2⟩ := seq_rep rs rx he
      exact call_len_seq pins s σ H _ us Q I r ⟨a, xs, rfl, h1, out _ rfl _ (by rw [h2.length]; exact .int _)⟩
    unfold lenD at hn
    split at hn
    · split at hn
      · rename_i hz
        cases rx; cases hn
        exact call_len_str pins s σ H _ us Q I r ⟨_, rfl, le_line hz, out _ rfl _ (.int _)⟩
      · cases hn
    · split at hn
      · rename_i q
        cases hn
        obtain ⟨a, ha, _, ks, h1, h2⟩ := rs.at_ q (by simp)
        have ex := rx.ptr_ref ha
        subst ex
        obtain ⟨u, rfl, ru⟩ := vals1 r
        cases ru
        exact d_len I (.inl h1) fun t s' I' => ⟨.int ks.length, H, I', ⟨t, rfl⟩, out _ rfl _ (by rw [kv_len h2]; exact .int _)⟩
      · rename_i q
        cases hn
        obtain ⟨a, ha, _, ks, o, h1, h2⟩ := rs.at_ q (by simp)
        have ex := rx.ptr_ref ha
        subst ex
        obtain ⟨u, rfl, ru⟩ := vals1 r
        cases ru
        exact d_len I (.inr ⟨o, h1⟩) fun t s' I' => ⟨.int ks.length, H, I', ⟨t, rfl⟩, out _ rfl _ (by rw [kv_len h2]; exact .int _)⟩
      · exact seq _ rfl hn
    · exact seq _ rfl hn
  | tuple =>
    obtain ⟨x, dx, rfl, rfl, rx, e1⟩ := one_arg (fun _ _ => rfl) rl e
    simp only [bi1] at e1
    split at e1
    · cases e1
    · rename_i hnc
      obtain ⟨es, he, rfl⟩ := Option.map_eq_some_iff.mp e1
      by_cases ht : ∃ ts, dx = .tup ts
      · obtain ⟨ts, rfl⟩ := ht
        cases he
        cases rx with
        | tup g1 g2 g3 g4 => exact call_tuple_of pins s σ H _ us Q I r ⟨_, _, rfl, .inr ⟨SqT.of g1, out _ rfl _ (.tup g1 g2 g3 g4)⟩⟩
      · obtain ⟨a, xs, rfl, h1, h2⟩ := lst_rep rs rx he (fun ts z => ht ⟨ts, z⟩) (fun ts z => hnc ts z)
        refine call_tuple_of pins s σ H _ us Q I r ⟨a, xs, rfl, .inl ⟨h1, fun l hl => ?_⟩⟩
        obtain ⟨q1, q2, q3⟩ := new_tup rs h2 hl
        exact k _ _ _ q1 q2 q3
  | sum =>
    obtain ⟨x, dx, rfl, rfl, rx, e1⟩ := one_arg (fun _ _ => rfl) rl e
    simp only [bi1] at e1
    obtain ⟨es, he, e2⟩ := Option.bind_eq_some_iff.mp e1
    split at e2
    · cases e2
    · cases e2
    · rename_i h1' h2'
      obtain ⟨ns, hn, rfl⟩ := Option.map_eq_some_iff.mp e2
      obtain ⟨a, xs, rfl, h1, h2⟩ := lst_rep rs rx he h1' h2'
      have := asInts_rep h2 hn
      subst this
      exact cr_sum hc pins s σ H _ us Q I r ⟨a, ns, rfl, h1, out _ rfl _ (.int _)⟩
  | any =>
    obtain ⟨x, dx, rfl, rfl, rx, e1⟩ := one_arg (fun _ _ => rfl) rl e
    simp only [bi1] at e1
    obtain ⟨es, he, e2⟩ := Option.bind_eq_some_iff.mp e1
    split at e2
    · cases e2
    · cases e2
    · rename_i h1' h2'
      obtain ⟨ns, hn, rfl⟩ := Option.map_eq_some_iff.mp e2
      obtain ⟨a, xs, rfl, h1, h2⟩ := lst_rep rs rx he h1' h2'
      have := asBls_rep h2 hn
      subst this
      exact cr_any hc pins s σ H _ us Q I r ⟨a, ns, rfl, h1, out _ rfl _ (.bl _)⟩
  | all =>
    obtain ⟨x, dx, rfl, rfl, rx, e1⟩ := one_arg (fun _ _ => rfl) rl e
    simp only [bi1] at e1
    obtain ⟨es, he, e2⟩ := Option.bind_eq_some_iff.mp e1
    split at e2
    · cases e2
    · cases e2
    · rename_i h1' h2'
      obtain ⟨ns, hn, rfl⟩ := Option.map_eq_some_iff.mp e2
      obtain ⟨a, xs, rfl, h1, h2⟩ := lst_rep rs rx he h1' h2'
      have := asBls_rep h2 hn
      subst this
      exact cr_all hc pins s σ H _ us Q I r ⟨a, ns, rfl, h1, out _ rfl _ (.bl _)⟩
  | ord =>
    obtain ⟨x, dx, rfl, rfl, rx, e1⟩ := one_arg (fun _ _ => rfl) rl e
    simp only [bi1] at e1
    split at e1
    · split at e1
      · rename_i hz
        cases rx
        exact call_ord pins s σ H _ us Q I r ⟨_, rfl, hz, out _ (Option.some.inj e1) _ (.int _)⟩
      · cases e1
    · cases e1
  | str =>
    obtain ⟨x, dx, rfl, rfl, rx, e1⟩ := one_arg (fun _ _ => rfl) rl e
    simp only [bi1] at e1
    split at e1
    · split at e1
      · rename_i hz
        cases rx
        exact call_str_int pins s σ H _ us Q I r ⟨_, rfl, hz, out _ (Option.some.inj e1) _ (.str _)⟩
      · cases e1
    · cases e1
  | max1 =>
    obtain ⟨x, dx, rfl, rfl, rx, e1⟩ := one_arg (fun _ _ => rfl) rl e
    simp only [bi1] at e1
    obtain ⟨es, he, e2⟩ := Option.bind_eq_some_iff.mp e1
    split at e2
    · cases e2
    · cases e2
    · rename_i h1' h2'
      obtain ⟨ns, hn, e3⟩ := Option.bind_eq_some_iff.mp e2
      obtain ⟨m, hm, rfl⟩ := Option.map_eq_some_iff.mp e3
      obtain ⟨a, xs, rfl, h1, h2⟩ := lst_rep rs rx he h1' h2'
      have := asInts_rep h2 hn
      subst this
      obtain ⟨m1, m2, m3⟩ := list_max hm
      refine cr_max hc pins s σ H _ us Q I r ⟨a, ns, rfl, h1, m1, fun m' i1 i2 => ?_⟩
      have : m' = m := Int.le_antisymm (m3 m' i1) (i2 m m2)
      subst this
      exact out _ rfl _ (.int _)
  | _ => cases hf
theorem go_args {f : List D → Store → Option D} {Q : VK} (h : Go X W σ H (fun env S => (evs cs env S).bind fun ds S => Rs.of (f ds S) S) fun hid ρ H' d _ => ∀ v, Rep X.K hid ρ H' v d → Q v H') : tCB (rB X f) (tA X W cs) σ H Q := by
  refine h.bind fun hid ρ1 H1 ds S1 env r1 e1 p1 vs rl => ?_
  obtain ⟨d, hd, k⟩ := p1.of
  exact ⟨hid, ρ1, S1, ds, d, r1, rl, hd, fun ρ' H' v e' r' rv => k ρ' H' e' r' v rv⟩
theorem s_bi {f : BFn} (hc : X.calm = true) (hu : X.A.units + 65 < cLine) (hf : biCall f = true) (hg : Gl X (biName f)) (hm : X.mg (biName f) = none) (ha : PA X (e :: es) (tA X W cs)) (hs : ((e :: es).all fun e => !isStar e) = true) :
    PE X (.Call (.Name (biName f) p) (e :: es) [] pos) (tE X W (.bi f cs)) := by
  have hs' : isStar e = false ∧ (es.all fun e => !isStar e) = true := by simpa using hs
  have st := star_cons hs'.1 es X.env
  have pl := back_none pos (star_none X.env hs'.2)
  have w : ∀ σ H Q, tE X W (.bi f cs) σ H Q → tCB (rB X (biD f)) (tA X W cs) σ H Q := fun σ H Q h => go_args (f := biD f) h
  have q := cB (X := X) hc hu f hf
  cases f with
  | abs => exact PE.imp (pe_callB q hg hm (by decide +kernel) ha (by decide) (by decide) st pl) w
  | max2 => exact PE.imp (pe_callB q hg hm (by decide +kernel) ha (by decide) (by decide) st pl) w
  | min2 => exact PE.imp (pe_callB q hg hm (by decide +kernel) ha (by decide) (by decide) st pl) w
  | int => exact PE.imp (pe_callTy q hg hm (by decide +kernel) ha (by decide) (by decide) st pl) w
  | len => exact PE.imp (pe_callB q hg hm (by decide +kernel) ha (by decide) (by decide) st pl) w
  | tuple => exact PE.imp (pe_callTy q hg hm (by decide +kernel) ha (by decide) (by decide) st pl) w
  | sum => exact PE.imp (pe_callB q hg hm (by decide +kernel) ha (by decide) (by decide) st pl) w
  | any => exact PE.imp (pe_callB q hg hm (by decide +kernel) ha (by decide) (by decide) st pl) w
  | all => exact PE.imp (pe_callB q hg hm (by decide +kernel) ha (by decide) (by decide) st pl) w
  | ord => exact PE.imp (pe_callB q hg hm (by decide +kernel) ha (by decide) (by decide) st pl) w
  | str => exact PE.imp (pe_callTy q hg hm (by decide +kernel) ha (by decide) (by decide) st pl) w
  | max1 => exact PE.imp (pe_callB q hg hm (by decide +kernel) ha (by decide) (by decide) st pl) w
  | _ => cases hf
/-! ### isinstance -/
def isiTy : BFn → String
  | .isList => "list" | .isTuple => "tuple" | .isBool => "bool" | .isStr => "str" | .isInt => "int" | _ => ""
def isiOk : BFn → Bool
  | .isList => true | .isTuple => true | .isBool => true | .isStr => true | .isInt => true | _ => false
def isiAns : BFn → Nat → Bool
  | .isList, k => k == 5 | .isTuple, k => k == 4 | .isBool, k => k == 1 | .isStr, k => k == 3 | .isInt, k => k == 1 || k == 2 | _, _ => false
theorem isi_ans {f : BFn} (hf : isiOk f = true) {d d' : D} {S : Store} (e : bi1 f d S = some d') : ∃ k, kindD d S = some k ∧ d' = .bl (isiAns f k) := by
  cases f <;> first | (cases hf; done) | (obtain ⟨k, hk, rfl⟩ := Option.map_eq_some_iff.mp e; exact ⟨k, hk, rfl⟩)
theorem isi_kit {K : PySem.W.Frag} {f : BFn} (hf : isiOk f = true) {k : Nat} (hk : k ≤ 5) : PySem.W.kitOne K (.type (tyName k)) (.type (isiTy f)) = some (isiAns f k) := by
  have : k = 0 ∨ k = 1 ∨ k = 2 ∨ k = 3 ∨ k = 4 ∨ k = 5 := by omega
  cases f <;> first | (cases hf; done) | skip
  all_goals rcases this with rfl | rfl | rfl | rfl | rfl | rfl
  all_goals exact kit_ty (by decide +kernel)
theorem s_isi {f : BFn} {T : Str} {pT : Pos} (hT : (T == Str.ofString (isiTy f)) = true) (hf : isiOk f = true) (hg : Gl X "isinstance") (hm : X.mg "isinstance" = none) (gT : Gl X T) (mT : X.mg T = none) (ha : PE X e (tE X W c)) (hs : isStar e = false) :
    PE X (.Call (.Name "isinstance" p) [e, .Name T pT] [] pos) (tE X W (.bi f (.cons c .nil))) := by
  have eT : T = Str.ofString (isiTy f) := by simpa using hT
  have bT : bootBuiltins T = some (.type (isiTy f)) ∧ T ≠ "__name__" ∧ (T == ("__debug__" : Str)) = false := by
    subst eT
    cases f <;> first | (cases hf; done) | exact ⟨by decide +kernel, by decide, by decide⟩
  have pN : PE X (.Name T pT) (tC (.ty (isiTy f))) := pe_bltn gT mT bT.1 rfl bT.2.1 bT.2.2
  have st : starEach [e, .Name T pT] X.env = (false, eval e X.env) :: starEach [.Name T pT] X.env := star_cons hs _ _
  have pa : PA X [e, .Name T pT] (tCons (tE X W c) (tCons (tC (.ty (isiTy f))) tNil)) := pa_cons ha (pa_cons pN pa_nil rfl) st
  refine PE.imp (pe_callB call_isi hg hm (by decide +kernel) pa (by decide) (by decide) st rfl) fun σ H Q h => ?_
  have h' : Go X W σ H (fun env S => ((ev c env S).bind fun x S => Rs.ok [x] S).bind fun ds S => Rs.of (biD f ds S) S) (fun hid ρ H' d _ => ∀ v, Rep X.K hid ρ H' v d → Q v H') := h
  have h2 : Go X W σ H (fun env S => (ev c env S).bind fun x S => Rs.of (bi1 f x S) S) (fun hid ρ H' d _ => ∀ v, Rep X.K hid ρ H' v d → Q v H') := by
    obtain ⟨hid, ρ, env, S, r, re, q⟩ := h'
    refine ⟨hid, ρ, env, S, r, re, ?_⟩
    have e0 : ((ev c env S).bind fun x S => Rs.ok [x] S).bind (fun ds S => Rs.of (biD f ds S) S) = (ev c env S).bind fun x S => Rs.of (bi1 f x S) S := by
      cases ev c env S <;> rfl
    show Post X.K X.mg hid ρ H ((ev c env S).bind fun x S => Rs.of (bi1 f x S) S) _ _
    rw [← e0]
    exact q
  refine h2.bind fun hid ρ1 H1 x S1 env r1 e1 p1 v rv => ?_
  obtain ⟨d, hd, k⟩ := p1.of
  obtain ⟨kk, hk, rfl⟩ := isi_ans hf hd
  obtain ⟨ty, hk5⟩ := kind_rep r1 rv hk
  exact ⟨v, .ty (isiTy f), _, _, isiAns f kk, rfl, .ty _, ty, isi_kit hf hk5, k _ _ Ext.refl r1 _ (.bl _)⟩
end
end MI
namespace MI
open PySem PySem.Spec L2
section
variable {K : PySem.W.Frag} {mg : Str → Option Value} {hid : List Addr} {ρ : Rho} {H : Hp} {S : Store}
theorem atI_rep {vs : List V} {ds : List D} {k : Int} {d : D} (h : RepL K hid ρ H vs ds) (e : atI ds k = some d) : ∃ v, atI vs k = some v ∧ Rep K hid ρ H v d := by
  unfold atI at e ⊢
  rw [h.length]
  obtain ⟨j, hj, hd⟩ := Option.bind_eq_some_iff.mp e
  obtain ⟨v, h1, h2⟩ := h.get hd
  exact ⟨v, by rw [hj]; exact h1, h2⟩
theorem cut_rep {vs : List V} {ds : List D} {lo hi : Option Int} (h : RepL K hid ρ H vs ds) : RepL K hid ρ H (cutV vs lo hi) (cutD ds lo hi) := by
  unfold cutV cutD
  rw [h.length]
  exact (h.drop _).take _
end
section
variable {X : Cx} {W : WX} {σ : L2.St} {H : Hp} {c a b : CE} {cs : CEs} {e ea eb ec : PySem.Expr} {es : List PySem.Expr} {p pos : Pos}
theorem ixR (hu : X.A.units + 65 < cLine) : IxR X (rD X ixD) := by
  intro value slice pins s σ H x y v u Q I rx ry h hs
  obtain ⟨hid, ρ, S, dx, dy, d, r, hx, hy, hd, k⟩ := h
  unfold ixD at hd
  split at hd
  · split at hd
    · rename_i o d' hg
      cases hd
      obtain ⟨a, ov, rfl, g, q⟩ := dget_rep r hx hy hg
      rcases q with ⟨_, q⟩ | ⟨w, d2, q1, q2, q3⟩
      · cases q
      · cases q2
        subst q1
        cases rx
        exact PyProof.Rows.tail_any (dict_typeIs I g) PySem.F.slot_dict_getitem.lookup (d_getItem (by omega) I g ry fun w' s' I' rw' => ⟨w, H, I', rw', k _ _ _ Ext.refl r q3⟩) hs
    · cases hd
  · split at hd
    · rename_i kk
      cases hy
      split at hd
      · split at hd
        · rename_i hz
          obtain ⟨cc, hc, rfl⟩ := Option.map_eq_some_iff.mp hd
          cases hx
          exact ix_str value slice pins s σ H _ _ v u Q I rx ry ⟨_, kk, cc, rfl, rfl, le_line hz, hc, k _ _ _ Ext.refl r (.str _)⟩ hs
        · cases hd
      · obtain ⟨ds, h1, h2⟩ := Option.bind_eq_some_iff.mp hd
        obtain ⟨a, xs, rfl, h3, h4⟩ := seq_rep r hx h1
        obtain ⟨w, h5, h6⟩ := atI_rep h4 h2
        rcases h3 with h3 | h3
        · exact ix_list value slice pins s σ H _ _ v u Q I rx ry ⟨a, xs, kk, w, rfl, rfl, h3, h5, k _ _ _ Ext.refl r h6⟩ hs
        · exact ix_tup value slice pins s σ H _ _ v u Q I rx ry ⟨a, xs, kk, w, rfl, rfl, h3, h5, k _ _ _ Ext.refl r h6⟩ hs
    · cases hd
def isSlice : PySem.Expr → Bool
  | .Slice _ _ _ _ => true
  | _ => false
theorem plainIx (h : isSlice eb = false) : PlainIx eb := by
  intro o i
  cases eb <;> first | rfl | cases h
theorem s_ix (hu : X.A.units + 65 < cLine) (ha : PE X ea (tE X W a)) (hb : PE X eb (tE X W b)) (hs : isSlice eb = false) : PE X (.Subscript ea eb pos) (tE X W (.ix a b)) :=
  PE.imp (pe_ix (ixR hu) ha hb (plainIx hs)) fun σ H Q h => go_op (f := ixD) h
/-- a slice, by values -/
def rSlD (X : Cx) : V → Option Int → Option Int → Hp → VK → Prop := fun x lo hi H Q => ∃ hid ρ S dx d, RelS X.K hid ρ H X.mg S ∧ Rep X.K hid ρ H x dx ∧ slD dx lo hi S = some d ∧
  ∀ ρ' H' v, Ext ρ H ρ' H' → RelS X.K hid ρ' H' X.mg S → Rep X.K hid ρ' H' v d → Q v H'
theorem slR : SlR X (rSlD X) := by
  intro pins s σ H x v vl vu lo hi sl Q I rx hs pl pu h
  obtain ⟨hid, ρ, S, dx, d, r, hx, hd, k⟩ := h
  unfold slD at hd
  split at hd
  · cases hd
    cases hx with
    | tup h1 h2 h3 h4 =>
      refine sl_tupA pins s σ H _ v vl vu lo hi sl Q I rx hs pl pu ⟨_, _, rfl, SqT.of h1, fun w => ?_, fun _ p hp => ?_⟩
      · refine k _ _ _ Ext.refl r ?_
        rename_i ds a xs
        have e : cutD ds lo hi = ds := by
          unfold cutD
          rw [← h4.length, w.1, w.2, List.drop_zero, Nat.sub_zero, h4.length, List.take_length]
        rw [e]
        exact .tup h1 h2 h3 h4
      · obtain ⟨q1, q2, q3⟩ := new_tup r (cut_rep (lo := lo) (hi := hi) h4) hp
        exact k _ _ _ q1 q2 q3
  · cases hd
    cases hx with
    | lst h1 h2 h3 h4 =>
      refine sl_list pins s σ H _ v vl vu lo hi sl Q I rx hs pl pu ⟨_, _, rfl, SqL.of h1, fun p hp => ?_⟩
      obtain ⟨q1, q2, q3⟩ := new_lst r (cut_rep (lo := lo) (hi := hi) h4) hp
      exact k _ _ _ q1 q2 q3
  · split at hd
    · rename_i q
      cases hd
      obtain ⟨a, ha, _, xs, h1, h2⟩ := r.at_ q (by simp)
      have ex := hx.ptr_ref ha
      subst ex
      refine sl_list pins s σ H _ v vl vu lo hi sl Q I rx hs pl pu ⟨_, _, rfl, SqL.of h1, fun p hp => ?_⟩
      obtain ⟨q1, q2, q3⟩ := new_lst r (cut_rep (lo := lo) (hi := hi) h2) hp
      exact k _ _ _ q1 q2 q3
    · rename_i q
      cases hd
      obtain ⟨a, ha, _, xs, o, h1, h2⟩ := r.at_ q (by simp)
      have ex := hx.ptr_ref ha
      subst ex
      refine sl_list pins s σ H _ v vl vu lo hi sl Q I rx hs pl pu ⟨_, _, rfl, .inl (.inr ⟨o, h1⟩), fun p hp => ?_⟩
      obtain ⟨q1, q2, q3⟩ := new_lst r (cut_rep (lo := lo) (hi := hi) h2) hp
      exact k _ _ _ q1 q2 q3
    · cases hd
  · split at hd
    · rename_i hz
      cases hd
      cases hx
      exact C8.sl_txt pins s σ H _ v vl vu lo hi sl Q I rx hs pl pu ⟨_, rfl, le_line hz, k _ _ _ Ext.refl r (.str _)⟩
    · cases hd
  · cases hd
theorem s_none : PO X none (tO X W .none) := PO.imp po_none fun σ H Q h => by
  obtain ⟨hid, ρ, env, S, r, re, p⟩ := h
  have p' : Post X.K X.mg hid ρ H (Rs.ok none S) (fun _ H' o _ => Q o H') (fun cls d H' => W cls d σ H') := p
  exact p'.here r
theorem s_some (ha : PE X ea (tE X W a)) : PO X (some ea) (tO X W (.some a)) := PO.imp (po_some ha) fun σ H Q h => by
  have h' : Go X W σ H (fun env S => (ev a env S).bind fun x S => (match x with | D.int i => Rs.ok (some i) S | _ => Rs.stuck)) (fun _ _ H' o _ => Q o H') := h
  refine h'.bind fun hid ρ1 H1 x S1 env r1 e1 p1 v rv => ?_
  split at p1
  · cases rv
    exact ⟨_, rfl, p1.here r1⟩
  · exact p1.elim
theorem s_sl {lo hi : CO} {el eh : Option PySem.Expr} {p2 : Pos} (ha : PE X ea (tE X W a)) (hl : PO X el (tO X W lo)) (hh : PO X eh (tO X W hi)) : PE X (.Subscript ea (.Slice el eh none p2) pos) (tE X W (.sl a lo hi)) := by
  refine PE.imp (pe_slice slR ha hl hh) fun σ H Q h => ?_
  have h' : Go X W σ H (fun env S => (ev a env S).bind fun x S => (evN lo env S).bind fun l S => (evN hi env S).bind fun h S => Rs.of (slD x l h S) S) (fun hid ρ H' d _ => ∀ v, Rep X.K hid ρ H' v d → Q v H') := h
  refine h'.bind fun hid ρ1 H1 x S1 env r1 e1 p1 v rv => ?_
  refine ⟨hid, ρ1, env, S1, r1, e1, p1.bind fun ρ2 H2 l S2 ex2 r2 p2 => ?_⟩
  refine ⟨hid, ρ2, env, S2, r2, e1.mono ex2, p2.bind fun ρ3 H3 h S3 ex3 r3 p3 => ?_⟩
  obtain ⟨d, hd, k⟩ := p3.of
  exact ⟨hid, ρ3, S3, x, d, r3, (rv.mono ex2).mono ex3, hd, fun ρ' H' w e' r' rw' => k ρ' H' e' r' w rw'⟩
/-! ### calls -/
/-- a def's promise, from its reading -/
def spOf (K : PySem.W.Frag) (mg : Str → Option Value) (g : Fn) : Sp := fun vs H Q E => ∃ hid ρ S ds, RelS K hid ρ H mg S ∧ RepL K hid ρ H vs ds ∧
  Post K mg hid ρ H (g ds S) (fun ρ' H' d _ => ∀ v, Rep K hid ρ' H' v d → Q v H') fun cls d H' => E cls d H'
structure CalOk (P : Program) (w : World) (K : PySem.W.Frag) (mg : Str → Option Value) (base : Heap) (lv : Nat) (x : Str) (g : Fn) : Prop where
  ex : ∃ (k : Nat) (f : Addr) (fd : FuncData) (ps : List Str), FnOk P w K mg base (L2.CX P w) k f fd ps (spOf K mg g) ∧ mg x = some (.ref f) ∧ PySem.W.keepIn K (.ref f) = true ∧ Binds K fd ps [] ∧ k ≤ lv
theorem s_call {lv : Nat} {x : Str} {g : Fn} (C : CalOk X.prog X.w X.K X.mg X.base lv x g) (hr : Room lv X.A) (tk : Takes X W) (hg : Gl X x) (hd : (x == ("__debug__" : Str)) = false) (ha : PA X (e :: es) (tA X W cs))
    (hs : ((e :: es).all fun e => !isStar e) = true) : PE X (.Call (.Name x p) (e :: es) [] pos) (tE X W (.call x g cs)) := by
  obtain ⟨k, f, fd, ps, F, hm, hk, hb, hkl⟩ := C.ex
  have hs' : isStar e = false ∧ (es.all fun e => !isStar e) = true := by simpa using hs
  refine PE.imp (pe_callS F (hr.mono hkl) hg hm hk hb (fun σ => passAt tk σ) ha hd (star_cons hs'.1 es X.env) (back_none pos (star_none X.env hs'.2))) fun σ H Q h => ?_
  have h' : Go X W σ H (fun env S => (evs cs env S).bind fun ds S => g ds S) (fun hid ρ H' d _ => ∀ v, Rep X.K hid ρ H' v d → Q v H') := h
  refine h'.bind fun hid ρ1 H1 ds S1 env r1 e1 p1 vs rl => ?_
  exact ⟨hid, ρ1, S1, ds, r1, rl, p1⟩
end
end MI
namespace MI
open PySem PySem.Spec L2
/-! ### slots -/
theorem wipe_get (σ : L2.St) : ∀ (vs : List Nat) (j : Nat), (wipe σ vs)[j]? = if j ∈ vs then (σ[j]?).map (fun _ => none) else σ[j]?
  | [], j => by simp [wipe]
  | v :: vs, j => by
    have ih := wipe_get σ vs j
    unfold wipe
    by_cases hj : v = j
    · subst hj
      rw [if_pos List.mem_cons_self]
      by_cases hl : v < (wipe σ vs).length
      · rw [List.getElem?_set_self hl]
        have hl' : v < σ.length := by rwa [wipe_length] at hl
        rw [List.getElem?_eq_getElem hl']; rfl
      · rw [List.getElem?_eq_none (by simpa using hl)]
        have hl' : ¬ v < σ.length := by rwa [wipe_length] at hl
        rw [List.getElem?_eq_none (by omega)]; rfl
    · rw [List.getElem?_set_ne hj, ih]
      have : (j ∈ v :: vs) ↔ j ∈ vs := by simp [List.mem_cons, Ne.symm hj]
      simp only [this]
theorem wipeE_get (σ : MEnv) : ∀ (vs : List Nat) (j : Nat), (wipeE σ vs)[j]? = if j ∈ vs then (σ[j]?).map (fun _ => none) else σ[j]?
  | [], j => by simp [wipeE]
  | v :: vs, j => by
    have ih := wipeE_get σ vs j
    have hlen : ∀ vs, (wipeE σ vs).length = σ.length := fun vs => by
      induction vs with
      | nil => rfl
      | cons a b ih => unfold wipeE; rw [List.length_set]; exact ih
    unfold wipeE
    by_cases hj : v = j
    · subst hj
      rw [if_pos List.mem_cons_self]
      by_cases hl : v < (wipeE σ vs).length
      · rw [List.getElem?_set_self hl]
        have hl' : v < σ.length := by rwa [hlen] at hl
        rw [List.getElem?_eq_getElem hl']; rfl
      · rw [List.getElem?_eq_none (by simpa using hl)]
        have hl' : ¬ v < σ.length := by rwa [hlen] at hl
        rw [List.getElem?_eq_none (by omega)]; rfl
    · rw [List.getElem?_set_ne hj, ih]
      have : (j ∈ v :: vs) ↔ j ∈ vs := by simp [List.mem_cons, Ne.symm hj]
      simp only [this]
theorem wipeE_len (σ : MEnv) : ∀ vs, (wipeE σ vs).length = σ.length
  | [] => rfl
  | v :: vs => by unfold wipeE; rw [List.length_set]; exact wipeE_len σ vs
theorem wipe_set {σ : L2.St} {vs : List Nat} {i : Nat} {o : Option V} (hi : i ∈ vs) : wipe (σ.set i o) vs = wipe σ vs := by
  apply List.ext_getElem?
  intro j
  rw [wipe_get, wipe_get]
  by_cases hj : j ∈ vs
  · rw [if_pos hj, if_pos hj]
    by_cases h : i = j
    · subst h
      by_cases hl : i < σ.length
      · rw [List.getElem?_set_self hl, List.getElem?_eq_getElem hl]; rfl
      · rw [List.getElem?_eq_none (by rw [List.length_set]; omega), List.getElem?_eq_none (by omega)]
    · rw [List.getElem?_set_ne h]
  · rw [if_neg hj, if_neg hj]
    have h : i ≠ j := fun z => hj (z ▸ hi)
    rw [List.getElem?_set_ne h]
theorem wipe_wipe (σ : L2.St) (vs : List Nat) : wipe (wipe σ vs) vs = wipe σ vs := by
  apply List.ext_getElem?
  intro j
  rw [wipe_get, wipe_get]
  by_cases hj : j ∈ vs
  · rw [if_pos hj, if_pos hj, Option.map_map]; rfl
  · rw [if_neg hj, if_neg hj]
section
variable {K : PySem.W.Frag} {mg : Str → Option Value} {hid hid' : List Addr} {ρ : Rho} {H : Hp} {S : Store} {σ : L2.St} {env env' : MEnv}
theorem RelE.wipe (h : RelE K hid ρ H σ env) (vs : List Nat) : RelE K hid ρ H (wipe σ vs) (wipeE env vs) := by
  refine ⟨by rw [wipe_length, wipeE_len]; exact h.len, fun i d hd => ?_⟩
  rw [wipeE_get] at hd
  rw [wipe_get]
  by_cases hi : i ∈ vs
  · rw [if_pos hi] at hd
    cases q : env[i]? with
    | none => rw [q] at hd; cases hd
    | some o => rw [q] at hd; cases hd
  · rw [if_neg hi] at hd
    rw [if_neg hi]
    exact h.at_ i d hd
theorem RelE.set {i : Nat} {v : V} {d : D} (h : RelE K hid ρ H σ env) (r : Rep K hid ρ H v d) : RelE K hid ρ H (σ.set i (some v)) (env.set i (some d)) := by
  refine ⟨by rw [List.length_set, List.length_set]; exact h.len, fun j d' hd => ?_⟩
  by_cases hj : i = j
  · subst hj
    by_cases hl : i < env.length
    · rw [List.getElem?_set_self hl] at hd
      cases hd
      exact ⟨v, List.getElem?_set_self (by rw [h.len]; exact hl), r⟩
    · rw [List.getElem?_eq_none (by rw [List.length_set]; omega)] at hd; cases hd
  · rw [List.getElem?_set_ne hj] at hd
    rw [List.getElem?_set_ne hj]
    exact h.at_ j d' hd
theorem RelE.conv (e : Cv hid ρ H hid' ρ H) (h : RelE K hid ρ H σ env) : RelE K hid' ρ H σ env := ⟨h.len, fun i d hd => let ⟨v, q, r⟩ := h.at_ i d hd; ⟨v, q, Rep.conv e d r⟩⟩
end
/-! ### targets -/
/-- a target's slots -/
def Tg.slots : Tg → List Nat
  | .name i => [i]
  | .tup is => is
/-- the names' readings, one after the other -/
def gNames : List Nat → TGs
  | [] => gNil
  | i :: is => gCons (gName i) (gNames is)
def gOf (K : PySem.W.Frag) : Tg → TG
  | .name i => gName i
  | .tup is => gTup K is.length (gNames is)
section
variable {X : Cx} {hid : List Addr} {ρ : Rho} {H : Hp} {σ : L2.St} {env env' : MEnv}
theorem names_ok {Q : L2.St → Hp → Prop} {us : List Nat} : ∀ (is : List Nat) {xs : List V} {ds : List D} {σ : L2.St} {env : MEnv}, RepL X.K hid ρ H xs ds → ds.length = is.length → RelE X.K hid ρ H σ env → (∀ i ∈ is, i ∈ us) →
    (∀ σ2, RelE X.K hid ρ H σ2 ((is.zip ds).foldl (fun ρ p => ρ.set p.1 (some p.2)) env) → (∀ vs, (∀ i ∈ us, i ∈ vs) → wipe σ2 vs = wipe σ vs) → Q σ2 H) → gNames is xs σ H Q
  | [], xs, ds, σ, env, rl, hl, re, _, k => by
    cases ds with
    | nil => cases rl; exact ⟨rfl, k σ re fun _ _ => rfl⟩
    | cons _ _ => simp at hl
  | i :: is, xs, ds, σ, env, rl, hl, re, hu, k => by
    cases rl with
    | nil => simp at hl
    | @cons v vs d ds r rl =>
      refine ⟨v, vs, rfl, ?_⟩
      refine names_ok is rl (by simpa using hl) (re.set (i := i) r) (fun j hj => hu j (List.mem_cons_of_mem _ hj)) fun σ2 r2 w2 => k σ2 r2 fun ws hw => ?_
      rw [w2 ws hw, wipe_set (hw i (hu i List.mem_cons_self))]
theorem set_ok {t : Tg} {x : V} {d : D} {Q : L2.St → Hp → Prop} (r : Rep X.K hid ρ H x d) (re : RelE X.K hid ρ H σ env) (hs : setT t d env = some env')
    (k : ∀ σ2, RelE X.K hid ρ H σ2 env' → (∀ vs, (∀ i ∈ t.slots, i ∈ vs) → wipe σ2 vs = wipe σ vs) → Q σ2 H) : gOf X.K t x σ H Q := by
  cases t with
  | name i =>
    cases hs
    exact k _ (re.set r) fun vs hv => wipe_set (hv i (List.mem_singleton.mpr rfl))
  | tup is =>
    cases d with
    | tup ds =>
      have hs' : (if ds.length = is.length then some ((is.zip ds).foldl (fun ρ p => ρ.set p.1 (some p.2)) env) else none) = some env' := hs
      split at hs'
      · rename_i hl
        cases hs'
        cases r with
        | tup h1 h2 h3 h4 => exact ⟨_, _, rfl, SqT.of h1, by rw [h4.length]; exact hl, names_ok is h4 hl re (fun _ h => h) k⟩
      · cases hs'
    | _ => cases hs
end
end MI
namespace MI
open PySem PySem.Spec L2
section
variable {K : PySem.W.Frag} {mg : Str → Option Value} {hid hid' : List Addr} {ρ ρ0 ρ1 ρ' : Rho} {H H0 H1 H' : Hp} {S : Store} {Dd : Addr} {o : HO}
theorem Cv.off (x : Ext ρ0 H0 ρ H) (hD : H0 Dd = none) : Cv hid ρ0 H0 (Dd :: hid) ρ H := ⟨x.len, x.slot, fun b u h1 h2 h3 => by
  obtain ⟨q1, q2⟩ := x.keep b u h1 h2
  exact ⟨q1, q2, fun z => (List.mem_cons.mp z).elim (fun e => by rw [e, hD] at h1; cases h1) h3⟩⟩
theorem Ext.off (x : Ext ρ0 H0 ρ H) (hD : H0 Dd = none) : Ext ρ0 H0 ρ (upd H Dd o) := ⟨x.len, x.slot, fun b u h1 h2 => by
  obtain ⟨q1, q2⟩ := x.keep b u h1 h2
  exact ⟨by rw [upd_ne (ne_of_none h1 hD)]; exact q1, q2⟩, fun b q u h => by
  rw [upd_ne (ne_of_none h hD)]; exact x.frz b q u h⟩
/-- the heap without what stands at a -/
def without (H : Hp) (a : Addr) : Hp := fun b => if b = a then none else H b
theorem without_ne {a b : Addr} (h : b ≠ a) : without H a b = H b := if_neg h
theorem without_upd {a : Addr} (h : H a = some o) : upd (without H a) a o = H := by
  funext b
  unfold upd without
  by_cases e : b = a
  · rw [if_pos e, e, h]
  · rw [if_neg e, if_neg e]
theorem RelS.drop (R : RelS K (Dd :: hid) ρ H mg S) (hn : Dd ∉ hid) : RelS K hid ρ (without H Dd) mg S ∧ Cv (Dd :: hid) ρ H hid ρ (without H Dd) := by
  have hr := (R.hidd Dd List.mem_cons_self).2
  have cv : Cv (Dd :: hid) ρ H hid ρ (without H Dd) := ⟨Nat.le_refl _, fun _ _ => .inl rfl, fun b u h1 h2 h3 => ⟨by
    have hb : b ≠ Dd := fun z => h3 (by rw [z]; exact List.mem_cons_self)
    rw [without_ne hb]; exact h1, h2, fun z => h3 (List.mem_cons_of_mem _ z)⟩⟩
  refine ⟨⟨R.len, R.nd, fun n c e => ?_, fun a h => ?_⟩, cv⟩
  · rcases R.cells n c e with q | ⟨a, q, r⟩
    · exact .inl q
    · have hne : a ≠ Dd := fun z => hr (z ▸ List.mem_of_getElem? q)
      exact .inr ⟨a, q, r.imp (fun u h => by rw [without_ne hne]; exact h) (fun d v z => Rep.conv cv d z) fun ds v z => RepL.conv cv ds z⟩
  · obtain ⟨⟨u, e⟩, z⟩ := R.hidd a (List.mem_cons_of_mem _ h)
    have hne : a ≠ Dd := fun e => hn (e ▸ h)
    exact ⟨⟨u, by rw [without_ne hne]; exact e⟩, z⟩
/-- what is walked: the items, as they stand -/
structure WalkOf (K : PySem.W.Frag) (mg : Str → Option Value) (hid : List Addr) (ρ0 : Rho) (H0 : Hp) (J : It) (ds : List D) : Prop where
  go : ∀ i ρ H, Ext ρ0 H0 ρ H → i < ds.length → J.go i H
  yl : ∀ i hid' ρ H S x H', Ext ρ0 H0 ρ H → Cv hid ρ0 H0 hid' ρ H → RelS K hid' ρ H mg S → i < ds.length → J.yld i H x H' → Ext ρ H ρ H' ∧ RelS K hid' ρ H' mg S ∧ ∃ d, ds[i]? = some d ∧ Rep K hid' ρ H' x d
  stop : ∀ i ρ H, Ext ρ0 H0 ρ H → ds.length ≤ i → J.stop i H
/-- a walk over what stays at a -/
theorem walk_of_list {a : Addr} {xs : List V} {ds : List D} (st : ∀ ρ H, Ext ρ0 H0 ρ H → SqL K H a xs) (rl : RepL K hid ρ0 H0 xs ds) : WalkOf K mg hid ρ0 H0 (Itl K a) ds where
  go := fun i ρ H x hi => by
    have hi' : i < xs.length := by rw [rl.length]; exact hi
    exact ⟨xs, xs[i], st ρ H x, List.getElem?_eq_getElem hi'⟩
  yl := fun i hid' ρ H S v H' x cv r hi y => by
    obtain ⟨rfl, f⟩ := y
    obtain ⟨d, h1, h2⟩ := rl.getV (f xs (st ρ _ x))
    exact ⟨Ext.refl, r, d, h1, Rep.conv cv d h2⟩
  stop := fun i ρ H x hi => ⟨xs, st ρ H x, by rw [rl.length]; exact hi⟩
theorem walk_of_tup {a : Addr} {xs : List V} {ds : List D} (st : ∀ ρ H, Ext ρ0 H0 ρ H → SqT K H a xs) (rl : RepL K hid ρ0 H0 xs ds) : WalkOf K mg hid ρ0 H0 (Itt K a) ds where
  go := fun i ρ H x hi => by
    have hi' : i < xs.length := by rw [rl.length]; exact hi
    exact ⟨xs, xs[i], st ρ H x, List.getElem?_eq_getElem hi'⟩
  yl := fun i hid' ρ H S v H' x cv r hi y => by
    obtain ⟨rfl, f⟩ := y
    obtain ⟨d, h1, h2⟩ := rl.getV (f xs (st ρ _ x))
    exact ⟨Ext.refl, r, d, h1, Rep.conv cv d h2⟩
  stop := fun i ρ H x hi => ⟨xs, st ρ H x, by rw [rl.length]; exact hi⟩
theorem enumD_len (ds : List D) : (enumD ds).length = ds.length := by
  unfold enumD; rw [List.length_map, List.length_zip, List.length_range, Nat.min_self]
theorem enumD_get (ds : List D) (i : Nat) (d : D) (h : ds[i]? = some d) : (enumD ds)[i]? = some (.tup [.int (i : Nat), d]) := by
  obtain ⟨hi, e⟩ := List.getElem?_eq_some_iff.mp h
  unfold enumD
  have z : ((List.range ds.length).zip ds)[i]? = some (i, d) := List.getElem?_zip_eq_some.mpr ⟨by rw [List.getElem?_range hi], h⟩
  rw [List.getElem?_map, z]
  rfl
theorem walk_of_enum {a : Addr} {xs : List V} {ds : List D} (st : ∀ ρ H, Ext ρ0 H0 ρ H → SqL K H a xs) (rl : RepL K hid ρ0 H0 xs ds) : WalkOf K mg hid ρ0 H0 (Ite K a) (enumD ds) where
  go := fun i ρ H x hi => by
    rw [enumD_len] at hi
    have hi' : i < xs.length := by rw [rl.length]; exact hi
    exact ⟨xs, xs[i], st ρ H x, List.getElem?_eq_getElem hi'⟩
  yl := fun i hid' ρ H S v H' x cv r hi y => by
    obtain ⟨T, w, rfl, hT, rfl, f⟩ := y
    obtain ⟨d, h1, h2⟩ := rl.getV (f xs (st ρ _ x))
    have s := same_new (o := HO.tup [.int (i : Nat), w]) hT
    obtain ⟨f1, f2⟩ := r.fresh hT
    exact ⟨Ext.same s, r.same s, _, enumD_get ds i d h1, .tup upd_same f1 f2 (.cons (.int _) (.cons ((Rep.conv cv d h2).mono (Ext.same s)) .nil))⟩
  stop := fun i ρ H x hi => ⟨xs, st ρ H x, by rw [rl.length, ← enumD_len]; exact hi⟩
theorem rangeD_len (lo hi : Int) : (rangeD lo hi).length = (hi - lo).toNat := by unfold rangeD; rw [List.length_map, List.length_range]
theorem walk_of_range {lo hi : Int} : WalkOf K mg hid ρ0 H0 (Itr lo (hi - lo).toNat) (rangeD lo hi) where
  go := fun i ρ H x h => by rw [rangeD_len] at h; exact h
  yl := fun i hid' ρ H S v H' x cv r h y => by
    obtain ⟨rfl, rfl⟩ := y
    rw [rangeD_len] at h
    refine ⟨Ext.refl, r, .int (lo + (i : Nat)), ?_, .int _⟩
    unfold rangeD
    rw [List.getElem?_map, List.getElem?_range h]; rfl
  stop := fun i ρ H x h => by rw [rangeD_len] at h; exact h
theorem walk_of_text {z : Str} : WalkOf K mg hid ρ0 H0 (Its z) (z.cps.toList.map fun c => .str ⟨#[c]⟩) where
  go := fun i ρ H x h => by
    rw [List.length_map] at h
    show i < z.cps.size
    simpa using h
  yl := fun i hid' ρ H S v H' x cv r h y => by
    obtain ⟨rfl, c, hc, rfl⟩ := y
    exact ⟨Ext.refl, r, .str ⟨#[c]⟩, by rw [List.getElem?_map]; simp [hc], .str _⟩
  stop := fun i ρ H x h => by
    rw [List.length_map] at h
    show z.cps.size ≤ i
    simpa using h
theorem walk_of_keys {a : Addr} {ob : Obj} {ks : List (Key × V)} {kvs : List (Key × D)} (st : H0 a = some (.frz ob (.dK ks))) (rl : RepKV K hid ρ0 H0 ks kvs) : WalkOf K mg hid ρ0 H0 (Itk a ob ks) (kvs.map fun kv => kD kv.1) where
  go := fun i ρ H x h => ⟨x.frz _ _ _ st, by rw [List.length_map] at h; rw [kv_len rl]; exact h⟩
  yl := fun i hid' ρ H S v H' x cv r h y => by
    obtain ⟨rfl, k, w, hk, rfl⟩ := y
    have key : ∀ (ks : List (Key × V)) (kvs : List (Key × D)) (i : Nat) (k : Key) (w : V), RepKV K hid ρ0 H0 ks kvs → ks[i]? = some (k, w) → ∃ d, kvs[i]? = some (k, d) := fun ks kvs i k w rl => by
      induction rl generalizing i with
      | nil => intro e; simp at e
      | @cons p q l1 l2 hd t ih =>
        cases i with
        | zero => intro e; simp at e; subst e; exact ⟨q.2, by simp only [List.getElem?_cons_zero, Option.some.injEq]; exact Prod.ext hd.1.symm rfl⟩
        | succ i => intro e; simp at e; obtain ⟨d, hd⟩ := ih i e; exact ⟨d, by simpa using hd⟩
    obtain ⟨d, hd⟩ := key ks kvs i k w rl hk
    refine ⟨Ext.refl, r, kD k, by rw [List.getElem?_map, hd]; rfl, ?_⟩
    cases k with
    | inl j => exact .int j
    | inr z => exact .str z
  stop := fun i ρ H x h => ⟨x.frz _ _ _ st, by rw [List.length_map] at h; rw [kv_len rl]; exact h⟩
end
section
variable {X : Cx} {W : WX} {σ : L2.St} {H : Hp} {c a b : CE} {cs : CEs} {e tg ea eb ec : PySem.Expr} {es : List PySem.Expr} {p pos : Pos}
def tI (X : Cx) (W : WX) (it : CI) : TI := fun σ H R => Go X W σ H (evI it) fun hid ρ' H' ds _ => ∀ J, WalkOf X.K X.mg hid ρ' H' J ds → R J H'
theorem PI.imp {t t' : TI} (h : PI X tg e t) (w : ∀ σ H R, t' σ H R → t σ H R) : PI X tg e t' := ⟨fun pins s σ H R I hw => h.run pins s σ H R I (w σ H R hw)⟩
theorem PI.or {t t' : TI} (h : PI X tg e t) (h' : PI X tg e t') : PI X tg e fun σ H R => t σ H R ∨ t' σ H R := ⟨fun pins s σ H R I hw => hw.elim (fun q => h.run pins s σ H R I q) fun q => h'.run pins s σ H R I q⟩
theorem kT_sq {K : PySem.W.Frag} {a : Addr} {xs : List V} (h : SqT K noH a xs) (H : Hp) : SqT K H a xs := by
  rcases h with q | q
  · rcases q with q | ⟨_, q⟩ <;> cases q
  · exact .inr q
theorem i_seq (ha : PE X e (tE X W c)) : PI X tg e (tI X W (.seq c)) := by
  refine PI.imp (PI.or (pi_list ha) (pi_tup ha)) fun σ H R h => ?_
  obtain ⟨hid, ρ, env, S, r, re, p⟩ := h
  have p' : Post X.K X.mg hid ρ H ((ev c env S).bind fun x S => Rs.of (iterD x) S) (fun ρ' H' ds _ => ∀ J, WalkOf X.K X.mg hid ρ' H' J ds → R J H') (fun cls d H' => W cls d σ H') := p
  cases q : ev c env S with
  | ok d S1 =>
    rw [q] at p'
    have p2 : Post X.K X.mg hid ρ H (Rs.of (iterD d) S1) (fun ρ' H' ds _ => ∀ J, WalkOf X.K X.mg hid ρ' H' J ds → R J H') (fun cls d H' => W cls d σ H') := p'
    obtain ⟨ds, hd, k⟩ := p2.of
    cases d with
    | lst es =>
      cases hd
      refine .inl ⟨hid, ρ, env, S, r, re, ?_⟩
      rw [q]
      intro ρ1 H1 e1 r1 v rv
      cases rv with
      | lst h1 h2 h3 h4 => exact ⟨_, rfl, ⟨_, SqL.of h1⟩, k ρ1 H1 e1 r1 _ (walk_of_list (fun ρ' H' x => SqL.of (x.keep _ _ h1 h2).1) h4)⟩
    | tup es =>
      cases hd
      refine .inr ⟨hid, ρ, env, S, r, re, ?_⟩
      rw [q]
      intro ρ1 H1 e1 r1 v rv
      cases rv with
      | tup h1 h2 h3 h4 => exact ⟨_, rfl, ⟨_, SqT.of h1⟩, k ρ1 H1 e1 r1 _ (walk_of_tup (fun ρ' H' x => SqT.of (x.keep _ _ h1 h2).1) h4)⟩
    | con es =>
      cases hd
      refine .inr ⟨hid, ρ, env, S, r, re, ?_⟩
      rw [q]
      intro ρ1 H1 e1 r1 v rv
      cases rv with
      | con h1 h4 => exact ⟨_, rfl, ⟨_, kT_sq h1 _⟩, k ρ1 H1 e1 r1 _ (walk_of_tup (fun ρ' H' x => kT_sq h1 _) h4)⟩
    | _ => cases hd
  | ex cc fs S1 =>
    refine .inl ⟨hid, ρ, env, S, r, re, ?_⟩
    rw [q] at p' ⊢
    exact p'
  | stuck => rw [q] at p'; exact p'.elim
theorem i_rng1 (hg : Gl X "range") (hm : X.mg "range" = none) (ha : PE X ea (tE X W a)) (hs : isStar ea = false) : PI X tg (.Call (.Name "range" p) [ea] [] pos) (tI X W (.rng1 a)) := by
  have st := star_cons hs [] X.env
  refine PI.imp (pi_range1 hg hm (pa_cons ha pa_nil st) st) fun σ H R h => ?_
  have h' : Go X W σ H (fun env S => (ev a env S).bind fun x S => (match x with | D.int j => if small62 j then Rs.ok (rangeD 0 j) S else Rs.stuck | _ => Rs.stuck)) (fun hid ρ' H' ds _ => ∀ J, WalkOf X.K X.mg hid ρ' H' J ds → R J H') := h
  refine h'.bind fun hid ρ1 H1 x S1 env r1 e1 p1 v rv => ?_
  split at p1
  · rename_i j
    split at p1
    · rename_i hj
      cases rv
      have hj' : -(2 ^ 60) ≤ j ∧ j < 2 ^ 60 := of_decide_eq_true hj
      refine ⟨j, rfl, by omega, by omega, ?_⟩
      have := p1.here r1 _ walk_of_range
      simpa using this
    · exact p1.elim
  · exact p1.elim
theorem i_rng2 (hg : Gl X "range") (hm : X.mg "range" = none) (ha : PE X ea (tE X W a)) (hb : PE X eb (tE X W b)) (hs : isStar ea = false) (hs2 : isStar eb = false) : PI X tg (.Call (.Name "range" p) [ea, eb] [] pos) (tI X W (.rng2 a b)) := by
  have st := star_cons hs [eb] X.env
  have st2 := star_cons hs2 [] X.env
  refine PI.imp (pi_range2 hg hm (pa_cons ha (pa_cons hb pa_nil st2) st) (by rw [st, st2]; rfl) st2) fun σ H R h => ?_
  have h' : Go X W σ H (fun env S => (ev a env S).bind fun x S => (ev b env S).bind fun y S => (match x, y with | D.int i, D.int j => if small62 i && small62 j then Rs.ok (rangeD i j) S else Rs.stuck | _, _ => Rs.stuck)) (fun hid ρ' H' ds _ => ∀ J, WalkOf X.K X.mg hid ρ' H' J ds → R J H') := h
  refine h'.bind fun hid ρ1 H1 x S1 env r1 e1 p1 v rv => ?_
  refine ⟨hid, ρ1, env, S1, r1, e1, p1.bind fun ρ2 H2 y S2 ex2 r2 p2 w rw' => ?_⟩
  split at p2
  · rename_i i j
    split at p2
    · rename_i hj
      cases rv; cases rw'
      rw [Bool.and_eq_true] at hj
      have h1 : -(2 ^ 60) ≤ i ∧ i < 2 ^ 60 := of_decide_eq_true hj.1
      have h2 : -(2 ^ 60) ≤ j ∧ j < 2 ^ 60 := of_decide_eq_true hj.2
      exact ⟨i, j, rfl, ⟨by omega, by omega, by omega, by omega⟩, p2.here r2 _ walk_of_range⟩
    · exact p2.elim
  · exact p2.elim
theorem i_enum {elts : List PySem.Expr} {kk : Nat} {tpos : Pos} (hg : Gl X "enumerate") (hm : X.mg "enumerate" = none) (ha : PE X ea (tE X W a)) (hs : isStar ea = false) :
    PI X (.Tuple elts kk tpos) (.Call (.Name "enumerate" p) [ea] [] pos) (tI X W (.enum a)) := by
  have st := star_cons hs [] X.env
  refine PI.imp (pi_enum hg hm (pa_cons ha pa_nil st) st) fun σ H R h => ?_
  have h' : Go X W σ H (fun env S => (ev a env S).bind fun x S => Rs.of ((iterL x).map enumD) S) (fun hid ρ' H' ds _ => ∀ J, WalkOf X.K X.mg hid ρ' H' J ds → R J H') := h
  refine h'.bind fun hid ρ1 H1 x S1 env r1 e1 p1 v rv => ?_
  obtain ⟨ds, hd, k⟩ := p1.of
  obtain ⟨es, he, rfl⟩ := Option.map_eq_some_iff.mp hd
  cases x with
  | lst es =>
    cases he
    cases rv with
    | lst h1 h2 h3 h4 => exact ⟨_, _, rfl, SqL.of h1, k _ _ Ext.refl r1 _ (walk_of_enum (fun ρ' H' x => SqL.of (x.keep _ _ h1 h2).1) h4)⟩
  | _ => cases he
theorem i_text (ha : PE X ea (tE X W a)) : PI X tg ea (tI X W (.text a)) := by
  refine PI.imp (pi_str ha) fun σ H R h => ?_
  have h' : Go X W σ H (fun env S => (ev a env S).bind fun x S => (match x with | D.str z => Rs.ok (z.cps.toList.map fun c => D.str ⟨#[c]⟩) S | _ => Rs.stuck)) (fun hid ρ' H' ds _ => ∀ J, WalkOf X.K X.mg hid ρ' H' J ds → R J H') := h
  refine h'.bind fun hid ρ1 H1 x S1 env r1 e1 p1 v rv => ?_
  split at p1
  · cases rv
    exact ⟨_, rfl, p1.here r1 _ walk_of_text⟩
  · exact p1.elim
theorem i_cellE (ha : PE X e (tE X W c)) : PI X tg e (tI X W (.cellE c)) := by
  refine PI.imp (pi_list ha) fun σ H R h => ?_
  have h' : Go X W σ H (fun env S => (ev c env S).bind fun x S => Rs.of (iterCL x S) S) (fun hid ρ' H' ds _ => ∀ J, WalkOf X.K X.mg hid ρ' H' J ds → R J H') := h
  refine h'.bind fun hid ρ1 H1 x S1 env r1 e1 p1 v rv => ?_
  obtain ⟨ds, hd, k⟩ := p1.of
  unfold iterCL at hd
  split at hd
  · split at hd
    · rename_i q2
      cases hd
      obtain ⟨a, ha, _, xs, o, hx, rl⟩ := r1.at_ q2 (by simp)
      have ev := rv.ptr_ref ha
      subst ev
      exact ⟨a, rfl, ⟨xs, .inl (.inr ⟨o, hx⟩)⟩, k _ _ Ext.refl r1 _ (walk_of_list (fun ρ' H' x => .inl (.inr ⟨o, x.frz _ _ _ hx⟩)) rl)⟩
    · cases hd
  · cases hd
theorem i_cell {i : Nat} {x : Str} (hN : X.N[i]? = some x) (hv : Vis X.env.scope x) (hd : (x == ("__debug__" : Str)) = false) (hcd : (x == ("__classdict__" : Str)) = false) : PI X tg (.Name x pos) (tI X W (.cell i)) := by
  have pv := pe_var (pos := pos) hN hv hd hcd
  refine PI.imp (PI.or (pi_list pv) (pi_keys pv)) fun σ H R h => ?_
  obtain ⟨hid, ρ, env, S, r, re, p⟩ := h
  have p' : Post X.K X.mg hid ρ H (match env[i]? with | some (some d) => Rs.of (iterC d S) S | _ => Rs.stuck) (fun ρ' H' ds _ => ∀ J, WalkOf X.K X.mg hid ρ' H' J ds → R J H') (fun cls d H' => W cls d σ H') := p
  split at p'
  · rename_i d q
    obtain ⟨ds, hd, k⟩ := p'.of
    obtain ⟨v, h1, h2⟩ := re.at_ i d q
    unfold iterC at hd
    split at hd
    · split at hd
      · rename_i q2
        cases hd
        obtain ⟨a, ha, _, xs, o, hx, rl⟩ := r.at_ q2 (by simp)
        have ev := h2.ptr_ref ha
        subst ev
        exact .inl ⟨_, h1, a, rfl, ⟨xs, .inl (.inr ⟨o, hx⟩)⟩, k _ _ Ext.refl r _ (walk_of_list (fun ρ' H' x => .inl (.inr ⟨o, x.frz _ _ _ hx⟩)) rl)⟩
      · rename_i q2
        cases hd
        obtain ⟨a, ha, _, ks, o, hx, rl⟩ := r.at_ q2 (by simp)
        have ev := h2.ptr_ref ha
        subst ev
        exact .inr ⟨_, h1, a, o, rfl, .inl ⟨ks, hx, k _ _ Ext.refl r _ (walk_of_keys hx rl)⟩⟩
      · cases hd
    · cases hd
  · exact p'.elim
end
end MI
namespace MI
open PySem PySem.Spec L2
/-! ### list comprehensions -/
/-- nothing is let out -/
abbrev W0 : WX := fun _ _ _ _ => False
theorem bind_assoc {α β γ : Type} (r : Rs α) (f : α → Store → Rs β) (g : β → Store → Rs γ) : (r.bind f).bind g = r.bind fun a S => (f a S).bind g := by cases r <;> rfl
/-- one turn -/
def turnC (t : Tg) (vs : List Nat) (c : CO) (e : CE) (ρ : MEnv) (d : D) (S : Store) : Rs (Option D) :=
  match setT t d (wipeE ρ vs) with
  | some ρ1 => ((evO c ρ1 S).bind fun b S => (match b with
    | some (.bl false) => .ok none S
    | some (.bl true) => (ev e ρ1 S).bind fun x S => .ok (some x) S
    | some _ => .stuck
    | none => (ev e ρ1 S).bind fun x S => .ok (some x) S)).nox
  | none => .stuck
def Noex {α : Type} (r : Rs α) : Prop := match r with | .ex _ _ _ => False | _ => True
theorem noex_nox {α : Type} (r : Rs α) : Noex r.nox := by cases r <;> trivial
theorem turnC_noex {t vs c e ρ d S} : Noex (turnC t vs c e ρ d S) := by
  unfold turnC
  split
  · exact noex_nox _
  · trivial
theorem compL_noex {f : D → Store → Rs (Option D)} (hf : ∀ d S, Noex (f d S)) : ∀ (ds acc : List D) (S : Store), Noex (compL f ds acc S)
  | [], _, _ => trivial
  | d :: ds, acc, S => by
    unfold compL
    have h := hf d S
    cases q : f d S with
    | ok o S1 =>
      show Noex (match o with | some y => if acc.length < 1000000 then compL f ds (acc ++ [y]) S1 else .stuck | none => compL f ds acc S1)
      cases o with
      | none => exact compL_noex hf ds acc S1
      | some y =>
        show Noex (if acc.length < 1000000 then compL f ds (acc ++ [y]) S1 else .stuck)
        split
        · exact compL_noex hf ds _ S1
        · trivial
    | ex c fs S1 => rw [q] at h; exact h.elim
    | stuck => trivial
section
variable {K : PySem.W.Frag} {mg : Str → Option Value} {hid : List Addr} {ρ ρ0 : Rho} {H H0 : Hp} {S : Store} {α β γ : Type} {r : Rs α} {f : α → Store → Rs β} {k : β → Store → Rs γ}
/-- the first part of a turn that lets nothing out -/
theorem Post.noxb {Q : Rho → Hp → γ → Store → Prop} {Q1 : Rho → Hp → α → Store → Prop} {W W' : Value → Option Addr → Hp → Prop} (h : Post K mg hid ρ0 H0 (((r.bind f).nox).bind k) Q W)
    (kk : ∀ ρ1 H1 a S1, Ext ρ H ρ1 H1 → RelS K hid ρ1 H1 mg S1 → Post K mg hid ρ0 H0 (((f a S1).nox).bind k) Q W → Q1 ρ1 H1 a S1) : Post K mg hid ρ H r Q1 W' := by
  cases r with
  | ok a S1 => exact fun ρ1 H1 e1 r1 => kk ρ1 H1 a S1 e1 r1 h
  | ex c fs S1 => exact h.elim
  | stuck => exact h.elim
end
section
variable {X : Cx} {W : WX} {σ : L2.St} {H : Hp} {c a b ce : CE} {cs : CEs} {e tg ea eb ec : PySem.Expr} {es : List PySem.Expr} {p pos : Pos}
/-- the comprehension, nothing to be locked -/
def evC (own : List (Str × Nat)) (t : Tg) (it : CI) (c : CO) (e : CE) (ρ : MEnv) (S : Store) : Rs (List D) := (evI it ρ S).bind fun items S1 => compL (turnC t (own.map (·.2)) c e ρ) items [] S1
def tLu (X : Cx) (W : WX) (own : List (Str × Nat)) (t : Tg) (it : CI) (c : CO) (e : CE) : TE := fun σ H Q => Go X W σ H (evC own t it c e) fun hid ρ H' ds _ => ∀ xs p, RepL X.K hid ρ H' xs ds → H' p = none → Q (.ref p) (upd H' p (.lst xs))
/-- the tests' reading -/
def tCt (X : Cx) : CO → TT
  | .none => tYes
  | .some c => tT X W0 c
theorem lc_read {own : List (Str × Nat)} {t : Tg} {it : CI} {co : CO} (hsl : ∀ i ∈ t.slots, i ∈ own.map (·.2)) {Q : VK} (h : tLu X W own t it co ce σ H Q) :
    tLc (tI X W it) (gOf X.K t) (tCt X co) (tE X W0 ce) (own.map (·.2)) σ H Q := by
  generalize hvs : own.map (·.2) = vs at hsl ⊢
  have h' : Go X W σ H (fun env S => (evI it env S).bind fun items S1 => compL (turnC t (own.map (·.2)) co ce env) items [] S1) (fun hid ρ H' ds _ => ∀ xs p, RepL X.K hid ρ H' xs ds → H' p = none → Q (.ref p) (upd H' p (.lst xs))) := h
  rw [hvs] at h'
  refine h'.bind fun hid ρ1 H1 items S1 env r1 e1 p1 J wk Dd hD => ?_
  obtain ⟨f1, f2⟩ := r1.fresh hD
  obtain ⟨x1, r1'⟩ := r1.hide (o := .lst []) hD
  have P0 : Post X.K X.mg (Dd :: hid) ρ1 H1 (compL (turnC t vs co ce env) items [] S1) (fun ρ' H' ds _ => ∀ acc, H' Dd = some (.lst acc) → RepL X.K (Dd :: hid) ρ' H' acc ds → Q (.ref Dd) H') (fun _ _ _ => False) := by
    have ne := compL_noex (f := turnC t vs co ce env) (fun _ _ => turnC_noex) items [] S1
    cases q : compL (turnC t vs co ce env) items [] S1 with
    | ok ds S2 =>
      rw [q] at p1
      intro ρ' H' x' r' acc ha rl
      obtain ⟨d1, d2⟩ := r'.drop f2
      have x2 : Ext ρ1 H1 ρ' (without H' Dd) := ⟨x'.len, x'.slot, fun b u h1 h2 => by
        obtain ⟨q1, q2⟩ := x'.keep b u h1 h2
        exact ⟨by rw [without_ne (ne_of_none h1 hD)]; exact q1, q2⟩, fun b q u h => by rw [without_ne (ne_of_none h hD)]; exact x'.frz b q u h⟩
      have := p1 ρ' (without H' Dd) x2 d1 acc Dd (RepL.conv d2 ds rl) (if_pos rfl)
      rwa [without_upd ha] at this
    | ex cc fs S2 => rw [q] at ne; exact ne.elim
    | stuck => rw [q] at p1; exact p1.elim
  refine ⟨fun i m H2 => m = items.length - i ∧ i ≤ items.length ∧ ∃ ρi Si acc ds, Ext ρ1 H1 ρi H2 ∧ RelS X.K (Dd :: hid) ρi H2 X.mg Si ∧ H2 Dd = some (.lst acc) ∧ RepL X.K (Dd :: hid) ρi H2 acc ds ∧
      Post X.K X.mg (Dd :: hid) ρ1 H1 (compL (turnC t vs co ce env) (items.drop i) ds Si) (fun ρ' H' ds _ => ∀ acc, H' Dd = some (.lst acc) → RepL X.K (Dd :: hid) ρ' H' acc ds → Q (.ref Dd) H') (fun _ _ _ => False),
    ⟨_, rfl, Nat.zero_le _, ρ1, S1, [], [], x1, r1', upd_same, .nil, P0⟩, ?_⟩
  rintro i m H2 ⟨rfl, hi, ρi, Si, acc, ds, xi, ri, hDi, rl, pi⟩
  by_cases hlt : i < items.length
  · refine .inr ⟨wk.go i ρi H2 xi hlt, fun H' => i + 1 ≤ items.length ∧ ∃ ρi Si acc ds, Ext ρ1 H1 ρi H' ∧ RelS X.K (Dd :: hid) ρi H' X.mg Si ∧ H' Dd = some (.lst acc) ∧ RepL X.K (Dd :: hid) ρi H' acc ds ∧
      Post X.K X.mg (Dd :: hid) ρ1 H1 (compL (turnC t vs co ce env) (items.drop (i + 1)) ds Si) (fun ρ' H' ds _ => ∀ acc, H' Dd = some (.lst acc) → RepL X.K (Dd :: hid) ρ' H' acc ds → Q (.ref Dd) H') (fun _ _ _ => False),
      fun H' n => ⟨items.length - (i + 1), by omega, rfl, n.1, n.2⟩, fun x H3 y => ?_⟩
    obtain ⟨x3, r3, d, hd, rx⟩ := wk.yl i (Dd :: hid) ρi H2 Si x H3 xi (Cv.off xi hD) ri hlt y
    have hdrop : items.drop i = d :: items.drop (i + 1) := by
      rw [List.drop_eq_getElem_cons hlt]
      have : items[i]? = some items[i] := List.getElem?_eq_getElem hlt
      rw [this] at hd
      cases hd
      rfl
    rw [hdrop] at pi
    have pi' : Post X.K X.mg (Dd :: hid) ρ1 H1 ((turnC t vs co ce env d Si).bind fun o S1 => (match o with
      | some y => if ds.length < 1000000 then compL (turnC t vs co ce env) (items.drop (i + 1)) (ds ++ [y]) S1 else .stuck
      | none => compL (turnC t vs co ce env) (items.drop (i + 1)) ds S1)) (fun ρ' H' ds _ => ∀ acc, H' Dd = some (.lst acc) → RepL X.K (Dd :: hid) ρ' H' acc ds → Q (.ref Dd) H') (fun _ _ _ => False) := pi
    have nD : some Dd ∉ ρi := (ri.hidd Dd List.mem_cons_self).2
    -- behind the element
    have last : ∀ {ρ4 : Rho} {H4 : Hp} {S4 : Store} {y : D} {v : V}, Ext ρi H3 ρ4 H4 → RelS X.K (Dd :: hid) ρ4 H4 X.mg S4 →
        Post X.K X.mg (Dd :: hid) ρ1 H1 (if ds.length < 1000000 then compL (turnC t vs co ce env) (items.drop (i + 1)) (ds ++ [y]) S4 else .stuck) (fun ρ' H' ds _ => ∀ acc, H' Dd = some (.lst acc) → RepL X.K (Dd :: hid) ρ' H' acc ds → Q (.ref Dd) H') (fun _ _ _ => False) →
        Rep X.K (Dd :: hid) ρ4 H4 v y → ∃ acc, H4 Dd = some (.lst acc) ∧ acc.length < sizeLine ∧ (i + 1 ≤ items.length ∧ ∃ ρi Si acc' ds, Ext ρ1 H1 ρi (upd H4 Dd (.lst (acc ++ [v]))) ∧ RelS X.K (Dd :: hid) ρi (upd H4 Dd (.lst (acc ++ [v]))) X.mg Si ∧ (upd H4 Dd (.lst (acc ++ [v]))) Dd = some (.lst acc') ∧ RepL X.K (Dd :: hid) ρi (upd H4 Dd (.lst (acc ++ [v]))) acc' ds ∧
          Post X.K X.mg (Dd :: hid) ρ1 H1 (compL (turnC t vs co ce env) (items.drop (i + 1)) ds Si) (fun ρ' H' ds _ => ∀ acc, H' Dd = some (.lst acc) → RepL X.K (Dd :: hid) ρ' H' acc ds → Q (.ref Dd) H') (fun _ _ _ => False)) := fun {ρ4 H4 S4 y v} x4 r4 p4 rv => by
      split at p4
      · rename_i hz
        have hx := x3.trans x4
        refine ⟨acc, (hx.keep _ _ hDi nD).1, lt_line (by rw [rl.length]; exact hz), hlt, ρ4, S4, acc ++ [v], ds ++ [y], Ext.off (xi.trans hx) hD, r4.turn, upd_same, ?_, p4⟩
        exact (RepL.conv Cv.turn _ (rl.mono hx)).append (.cons (Rep.conv Cv.turn _ rv) .nil)
      · exact p4.elim
    unfold turnC at pi'
    split at pi'
    · rename_i env2 hset
      have re2 : RelE X.K (Dd :: hid) ρi H3 (wipe σ vs) (wipeE env vs) := by
        have q := (e1.wipe vs)
        exact ⟨q.len, fun j d' hj => let ⟨v, q1, q2⟩ := q.at_ j d' hj; ⟨v, q1, (Rep.conv (Cv.off xi hD) d' q2).mono x3⟩⟩
      refine set_ok rx re2 hset fun σ2 re3 w2 => ⟨by rw [w2 vs hsl, wipe_wipe], ?_⟩
      cases co with
      | none =>
        show tE X W0 ce σ2 H3 _
        refine ⟨Dd :: hid, ρi, env2, Si, r3, re3, ?_⟩
        have p5 : Post X.K X.mg (Dd :: hid) ρ1 H1 ((((ev ce env2 Si).bind fun x S => Rs.ok (some x) S).nox).bind fun o S1 => (match o with
          | some y => if ds.length < 1000000 then compL (turnC t vs .none ce env) (items.drop (i + 1)) (ds ++ [y]) S1 else .stuck
          | none => compL (turnC t vs .none ce env) (items.drop (i + 1)) ds S1)) (fun ρ' H' ds _ => ∀ acc, H' Dd = some (.lst acc) → RepL X.K (Dd :: hid) ρ' H' acc ds → Q (.ref Dd) H') (fun _ _ _ => False) := pi'
        exact p5.noxb fun ρ4 H4 y S4 x4 r4 p4 v rv => last x4 r4 p4 rv
      | some c =>
        have e0 : (evO (.some c) env2 Si).bind (fun b S => (match b with
            | some (.bl false) => .ok none S
            | some (.bl true) => (ev ce env2 S).bind fun x S => .ok (some x) S
            | some _ => .stuck
            | none => (ev ce env2 S).bind fun x S => .ok (some x) S)) = (ev c env2 Si).bind fun b S => (match b with
            | .bl false => .ok none S
            | .bl true => (ev ce env2 S).bind fun x S => .ok (some x) S
            | _ => .stuck) := by
          show ((ev c env2 Si).bind fun x S => Rs.ok (some x) S).bind _ = _
          rw [bind_assoc]
          congr 1
          funext x S
          cases x with
          | bl b => cases b <;> rfl
          | _ => rfl
        rw [e0] at pi'
        refine ⟨Dd :: hid, ρi, env2, Si, r3, re3, pi'.noxb fun ρ4 H4 y S4 x4 r4 p4 => ?_⟩
        split at p4
        · refine ⟨false, rfl, ?_⟩
          have hx := x3.trans x4
          exact ⟨hlt, ρ4, S4, acc, ds, xi.trans hx, r4, (hx.keep _ _ hDi nD).1, rl.mono hx, p4⟩
        · refine ⟨true, rfl, ?_⟩
          show tE X W0 ce σ2 H4 _
          refine ⟨Dd :: hid, ρ4, env2, S4, r4, re3.mono x4, p4.noxb fun ρ5 H5 y S5 x5 r5 p5 v rv => last (x4.trans x5) r5 p5 rv⟩
        · exact p4.elim
    · exact pi'.elim
  · have hi' : items.drop i = [] := List.drop_eq_nil_of_le (by omega)
    rw [hi'] at pi
    exact .inl ⟨wk.stop i ρi H2 xi (by omega), pi ρi H2 xi ri acc hDi rl⟩
end
end MI
namespace MI
open PySem PySem.Spec L2
section
variable {K : PySem.W.Frag} {mg : Str → Option Value} {hid : List Addr} {ρ ρ' : Rho} {H H' : Hp} {S S1 S' : Store} {n : Nat} {a : Addr} {u : HO} {c : Cell} {σ : L2.St} {env : MEnv}
theorem Cv.cell (ha : some a ∈ ρ) {o : HO} : Cv hid ρ H hid ρ (upd H a o) := ⟨Nat.le_refl _, fun _ _ => .inl rfl, fun b w h1 h2 h3 => ⟨by
  have hb : b ≠ a := fun z => h2 (z ▸ ha)
  rw [upd_ne hb]; exact h1, h2, h3⟩⟩
/-- a cell's object is another one -/
theorem RelS.rewrite {o : HO} (R : RelS K hid ρ H mg S) (e : ρ[n]? = some (some a)) (rc : RepC K hid ρ (upd H a o) mg n a c) : RelS K hid ρ (upd H a o) mg (S.set n c) := by
  have ha : some a ∈ ρ := List.mem_of_getElem? e
  refine ⟨by rw [List.length_set]; exact R.len, R.nd, fun m c' hc => ?_, fun b hb => ?_⟩
  · by_cases hm : m = n
    · subst hm
      have hl : m < S.length := by rw [← R.len]; exact (List.getElem?_eq_some_iff.mp e).1
      rw [List.getElem?_set_self hl] at hc
      cases hc
      exact .inr ⟨a, e, rc⟩
    · rw [List.getElem?_set_ne (Ne.symm hm)] at hc
      rcases R.cells m c' hc with q | ⟨b, q, r⟩
      · exact .inl q
      · have hb : b ≠ a := fun z => hm (R.nd m n a (z ▸ q) e)
        exact .inr ⟨b, q, r.imp (fun w h => by rw [upd_ne hb]; exact h) (fun d v z => Rep.conv (Cv.cell ha) d z) fun ds v z => RepL.conv (Cv.cell ha) ds z⟩
  · obtain ⟨⟨w, h1⟩, h2⟩ := R.hidd b hb
    have hne : b ≠ a := fun z => h2 (z ▸ ha)
    exact ⟨⟨w, by rw [upd_ne hne]; exact h1⟩, h2⟩
/-- what is got back where a locked cell is opened -/
structure Opened (K : PySem.W.Frag) (mg : Str → Option Value) (hid : List Addr) (ρ : Rho) (H : Hp) (n : Nat) (c : Cell) (a : Addr) (u : HO) (fz : HO) (ρ' : Rho) (H' : Hp) (S3 : Store) : Prop where
  at_ : H' a = some fz
  ext : Ext ρ H ρ' (upd H' a u)
  rel : RelS K hid ρ' (upd H' a u) mg S3
  cv : Cv hid ρ' H' hid ρ' (upd H' a u)
/-- what a locked cell is -/
structure Locked (K : PySem.W.Frag) (mg : Str → Option Value) (hid : List Addr) (ρ : Rho) (H : Hp) (S1 : Store) (n : Nat) (c : Cell) (a : Addr) (u : HO) : Prop where
  at_ : H a = some u
  mu : Mut (some u)
  run : ∀ od, Ext ρ H ρ (upd H a (.frz od u)) ∧ RelS K hid ρ (upd H a (.frz od u)) mg S1 ∧
    ∀ ρ' H' S' S3, Ext ρ (upd H a (.frz od u)) ρ' H' → RelS K hid ρ' H' mg S' → unl (some (n, c)) S' = some S3 → Opened K mg hid ρ H n c a u (.frz od u) ρ' H' S3
theorem lock_mk {lk : Cell} (r : RelS K hid ρ H mg S) (ha : ρ[n]? = some (some a)) (hu : H a = some u) (mu : Mut (some u)) (nf : ∀ q w, u ≠ .frz q w)
    (hl : ∀ od, RepC K hid ρ (upd H a (.frz od u)) mg n a lk) (hc : ∀ ρ' H', Ext ρ H ρ' (upd H' a u) → RepC K hid ρ' (upd H' a u) mg n a c) : Locked K mg hid ρ H (S.set n lk) n c a u := by
  refine ⟨hu, mu, fun od => ?_⟩
  have hm : some a ∈ ρ := List.mem_of_getElem? ha
  have nfr : ∀ q w, H a ≠ some (.frz q w) := fun q w z => by rw [hu] at z; exact nf q w (Option.some.inj z)
  obtain ⟨e1, r1⟩ := r.write ha nfr (hl od)
  refine ⟨e1, r1, fun ρ' H' S' S3 x r' hs => ?_⟩
  have at_ : H' a = some (.frz od u) := x.frz a od u upd_same
  have hn : n < ρ.length := (List.getElem?_eq_some_iff.mp ha).1
  have live : ρ'[n]? = some (some a) := by
    have hs' : (match S'[n]? with | some (.lkl _) => some (S'.set n c) | some (.lkd _) => some (S'.set n c) | _ => none) = some S3 := hs
    have key : ∃ b, ρ'[n]? = some (some b) := by
      split at hs'
      · rename_i q; obtain ⟨b, hb, _⟩ := r'.at_ q (by simp); exact ⟨b, hb⟩
      · rename_i q; obtain ⟨b, hb, _⟩ := r'.at_ q (by simp); exact ⟨b, hb⟩
      · cases hs'
    obtain ⟨b, hb⟩ := key
    rcases x.slot n hn with q | q
    · rw [q]; exact ha
    · rw [q] at hb; cases hb
  have hm' : some a ∈ ρ' := List.mem_of_getElem? live
  have ext : Ext ρ H ρ' (upd H' a u) := ⟨x.len, x.slot, fun b w h1 h2 => by
    have hb : b ≠ a := fun z => h2 (z ▸ hm)
    obtain ⟨q1, q2⟩ := x.keep b w (by rw [upd_ne hb]; exact h1) h2
    exact ⟨by rw [upd_ne hb]; exact q1, q2⟩, fun b q w h => by
    have hb : b ≠ a := fun z => nfr q w (z ▸ h)
    rw [upd_ne hb]
    exact x.frz b q w (by rw [upd_ne hb]; exact h)⟩
  have e3 : S3 = S'.set n c := by
    have hs' : (match S'[n]? with | some (.lkl _) => some (S'.set n c) | some (.lkd _) => some (S'.set n c) | _ => none) = some S3 := hs
    split at hs' <;> first | (cases hs'; rfl) | cases hs'
  subst e3
  exact ⟨at_, ext, r'.rewrite live (hc ρ' H' ext), Cv.cell hm'⟩
theorem lockC_open {d : D} {l : Nat × Cell} (r : RelS K hid ρ H mg S) (h : (lockC d S).2 = some l) : ∃ a u, Locked K mg hid ρ H (lockC d S).1 l.1 l.2 a u := by
  unfold lockC at h ⊢
  cases d with
  | ptr n =>
    simp only at h ⊢
    split at h
    · rename_i ds q
      cases h
      try rw [q]
      obtain ⟨a, ha, hlt, xs, hx, rl⟩ := r.at_ q (by simp)
      have hm : some a ∈ ρ := List.mem_of_getElem? ha
      exact ⟨a, .lst xs, lock_mk r ha hx trivial (fun _ _ z => by cases z) (fun od => ⟨hlt, xs, od, upd_same, RepL.conv (Cv.cell hm) _ rl⟩) fun ρ' H' x => ⟨hlt, xs, upd_same, rl.mono x⟩⟩
    · rename_i ds q
      cases h
      try rw [q]
      obtain ⟨a, ha, hlt, ks, hx, rl⟩ := r.at_ q (by simp)
      have hm : some a ∈ ρ := List.mem_of_getElem? ha
      exact ⟨a, .dK ks, lock_mk r ha hx trivial (fun _ _ z => by cases z) (fun od => ⟨hlt, ks, od, upd_same, rl.imp fun d v z => Rep.conv (Cv.cell hm) d z⟩) fun ρ' H' x => ⟨hlt, ks, upd_same, rl.imp fun d v z => z.mono x⟩⟩
    · cases h
  | _ => cases h
theorem lockC_none {d : D} (h : (lockC d S).2 = none) : (lockC d S).1 = S := by
  unfold lockC at h ⊢
  cases d with
  | ptr n =>
    simp only at h ⊢
    split at h
    · cases h
    · cases h
    · rfl
  | _ => rfl
theorem lock_open {it : CI} {l : Nat × Cell} (r : RelS K hid ρ H mg S) (h : (lockI it env S).2 = some l) : ∃ a u, Locked K mg hid ρ H (lockI it env S).1 l.1 l.2 a u := by
  cases it with
  | cell i =>
    simp only [lockI] at h ⊢
    split at h
    · exact lockC_open r h
    · cases h
  | cellE e =>
    simp only [lockI] at h ⊢
    split at h
    · exact lockC_open r h
    · cases h
  | _ => cases h
theorem lock_none {it : CI} (h : (lockI it env S).2 = none) : (lockI it env S).1 = S := by
  cases it with
  | cell i =>
    simp only [lockI] at h ⊢
    split at h
    · exact lockC_none h
    · rfl
  | cellE e =>
    simp only [lockI] at h ⊢
    split at h
    · exact lockC_none h
    · rfl
  | _ => rfl
theorem unl_none : unl none S = some S := rfl
end
section
variable {X : Cx} {W : WX} {σ : L2.St} {H : Hp} {c a b ce : CE} {cs : CEs} {e tg ea eb ec elt iter : PySem.Expr} {es ifs : List PySem.Expr} {p pos : Pos} {own : List (Str × Nat)} {t : Tg} {it : CI} {co : CO} {scope : Scope}
theorem upd_comm {a b : Addr} {o u : HO} (h : a ≠ b) : upd (upd H a o) b u = upd (upd H b u) a o := by
  funext c
  unfold upd
  by_cases h1 : c = b
  · by_cases h2 : c = a
    · exact absurd (h2.symm.trans h1) h
    · rw [if_pos h1, if_neg h2, if_pos h1]
  · by_cases h2 : c = a
    · rw [if_neg h1, if_pos h2, if_pos h2]
    · rw [if_neg h1, if_neg h2, if_neg h2, if_neg h1]
theorem evL_comp {env : MEnv} {S : Store} : evL (.comp own t it co ce) env S = (evC own t it co ce env (lockI it env S).1).bind fun ds S2 => (match unl (lockI it env S).2 S2 with | some S3 => .ok ds S3 | none => .stuck) := by
  unfold evC
  rw [bind_assoc]
  rfl
theorem comp_lock {Q : VK} (h : tL X W (.comp own t it co ce) σ H Q) : tLu X W own t it co ce σ H Q ∨ tLockE (tLu X W own t it co ce) σ H Q := by
  obtain ⟨hid, ρ, env, S, r, re, p⟩ := h
  rw [evL_comp] at p
  cases q : (lockI it env S).2 with
  | none =>
    rw [q, lock_none q] at p
    exact .inl ⟨hid, ρ, env, S, r, re, p.bind fun ρ1 H1 ds S1 e1 r1 p1 => p1.here r1⟩
  | some l =>
    obtain ⟨n, cc⟩ := l
    rw [q] at p
    obtain ⟨a, u, L⟩ := lock_open r q
    refine .inr ⟨a, u, L.at_, L.mu, fun od => ?_⟩
    obtain ⟨e1, r1, k⟩ := L.run od
    refine ⟨hid, ρ, env, (lockI it env S).1, r1, re.mono e1, ?_⟩
    cases z : evC own t it co ce env (lockI it env S).1 with
    | ok ds S2 =>
      rw [z] at p
      have p2 : Post X.K X.mg hid ρ H (match unl (some (n, cc)) S2 with | some S3 => .ok ds S3 | none => .stuck) (fun ρ' H' ds _ => ∀ xs p, RepL X.K hid ρ' H' xs ds → H' p = none → Q (.ref p) (upd H' p (.lst xs))) (fun cls d H' => W cls d σ H') := p
      intro ρ' H' x r' xs pp rl hp
      split at p2
      · rename_i S3 hs
        have O := k ρ' H' S2 S3 x r' hs
        have hne : pp ≠ a := fun z => by rw [z, O.at_] at hp; cases hp
        refine ⟨by rw [upd_ne (Ne.symm hne)]; exact O.at_, ?_⟩
        have := p2 ρ' (upd H' a u) O.ext O.rel xs pp (RepL.conv O.cv _ rl) (by rw [upd_ne hne]; exact hp)
        rw [upd_comm hne]
        exact this
      · exact p2.elim
    | ex c0 fs S2 =>
      rw [z] at p
      intro ρ' H' cls d x r' xr
      exact (p : Post X.K X.mg hid ρ H (Rs.ex c0 fs S2 : Rs (List D)) _ _) ρ' H' cls d (e1.trans x) r' xr
    | stuck => rw [z] at p; exact p.elim
/-- the parts of a comprehension, in its own block -/
structure Comp (X : Cx) (scope : Scope) (own : List (Str × Nat)) (t : Tg) (it : CI) (co : CO) (ce : CE) (tg iter elt : PySem.Expr) (ifs : List PySem.Expr) : Prop where
  hc : X.calm = true
  hN : X.N.Nodup
  hi : ∀ W, Takes X W → PI X tg iter (tI X W it)
  ok : BlkOk X.N X.env.scope scope own
  hsl : ∀ i ∈ t.slots, i ∈ own.map (·.2)
  hg : ∀ (s : Shared) (H : Hp) (C : Addr) (cl : List (Str × Addr)) (fp : List Addr), PG (X.blk s H scope (compEnvC scope cl C X.env) fp) tg (gOf X.K t)
  ht : ∀ (s : Shared) (H : Hp) (C : Addr) (cl : List (Str × Addr)) (fp : List Addr), PTs (X.blk s H scope (compEnvC scope cl C X.env) fp) ifs (tCt X co)
  he : ∀ (s : Shared) (H : Hp) (C : Addr) (cl : List (Str × Addr)) (fp : List Addr), PE (X.blk s H scope (compEnvC scope cl C X.env) fp) elt (tE X W0 ce)
  hs : ∀ x, foldedSetIterable iter X.env x = pure x
theorem PE.or {t t' : TE} (h : PE X e t) (h' : PE X e t') : PE X e fun σ H Q => t σ H Q ∨ t' σ H Q := ⟨fun pins s σ H Q I hw => hw.elim (fun q => h.run pins s σ H Q I q) fun q => h'.run pins s σ H Q I q⟩
theorem PS.or {st : PySem.Stmt} {t t' : TS} (h : PS X st t) (h' : PS X st t') : PS X st fun D σ H => t D σ H ∨ t' D σ H := ⟨fun pins s σ H D I hw => hw.elim (fun q => h.run pins s σ H D I q) fun q => h'.run pins s σ H D I q⟩
theorem s_comp (tk : Takes X W) (C : Comp X scope own t it co ce tg iter elt ifs) : PE X (.ListComp elt [⟨tg, iter, ifs, 0⟩] scope pos) (tL X W (.comp own t it co ce)) := by
  have h0 : PE X (.ListComp elt [⟨tg, iter, ifs, 0⟩] scope pos) (tLu X W own t it co ce) := PE.imp (pe_lc C.hc C.hN (C.hi W tk) C.ok C.hg C.ht C.he C.hs) fun σ H Q h => lc_read C.hsl h
  exact PE.imp (PE.or h0 (pe_lock h0)) fun σ H Q h => comp_lock h
theorem new_read {m : Bool} {l : CL} {Q : VK} (hq : tE X W (.new m l) σ H Q) : tL X W l σ H Q := by
  have h' : Go X W σ H (fun env S => (evL l env S).bind fun ds S => newL m ds S) (fun hid ρ H' d _ => ∀ v, Rep X.K hid ρ H' v d → Q v H') := hq
  refine h'.bind fun hid ρ1 H1 ds S1 env r1 e1 p1 xs p rl hp => ?_
  cases m with
  | false =>
    obtain ⟨q1, q2, q3⟩ := new_lst r1 rl hp
    have p1' : Post X.K X.mg hid ρ1 H1 (Rs.ok (D.lst ds) S1) (fun ρ H' d _ => ∀ v, Rep X.K hid ρ H' v d → Q v H') (fun cls d H' => W cls d σ H') := p1
    exact p1' _ _ q1 q2 _ q3
  | true =>
    have p1' : Post X.K X.mg hid ρ1 H1 (if ltL ds S1.length then Rs.ok (D.ptr S1.length) (S1 ++ [.lst ds]) else Rs.stuck) (fun ρ H' d _ => ∀ v, Rep X.K hid ρ H' v d → Q v H') (fun cls d H' => W cls d σ H') := p1
    split at p1'
    · rename_i hl
      have ex := r1.ext_push (o := HO.lst xs) hp
      obtain ⟨q1, q2⟩ := r1.push (o := HO.lst xs) (c := .lst ds) hp ⟨hl, xs, upd_same, rl.mono ex⟩
      refine p1' _ _ q1 q2 _ (.ptr ?_ fun a ha => ?_)
      · rw [List.length_append, r1.len]; exact Nat.lt_succ_self _
      · rw [← r1.len] at ha
        simp at ha
        rw [ha]
    · exact p1'.elim
end
end MI
namespace MI
open PySem PySem.Spec L2
/-! ### statements -/
section
variable (K : PySem.W.Frag) (mg : Str → Option Value) (hid : List Addr) (ρ : Rho) (H : Hp)
def PostF (r : Fl) (D : Ends) (W : WX) : Prop :=
  match r with
  | .nx env S => ∀ ρ' H' σ', Ext ρ H ρ' H' → RelS K hid ρ' H' mg S → RelE K hid ρ' H' σ' env → D.nx σ' H'
  | .ret d S => ∀ ρ' H' v, Ext ρ H ρ' H' → RelS K hid ρ' H' mg S → Rep K hid ρ' H' v d → D.rt v H'
  | .ex c fs env S => ∀ ρ' H' cls d σ', Ext ρ H ρ' H' → RelS K hid ρ' H' mg S → RelE K hid ρ' H' σ' env → ExcRep K mg hid ρ' H' cls d c fs → W cls d σ' H'
  | .stuck => False
end
section
variable {K : PySem.W.Frag} {mg : Str → Option Value} {hid : List Addr} {ρ ρ' : Rho} {H H' : Hp} {D D' : Ends} {W : WX} {r : Fl} {S : Store} {σ : L2.St} {env : MEnv}
theorem PostF.ext (e : Ext ρ H ρ' H') (h : PostF K mg hid ρ H r D W) : PostF K mg hid ρ' H' r D W := by
  cases r with
  | nx env S => exact fun ρ1 H1 σ' e1 => h ρ1 H1 σ' (e.trans e1)
  | ret d S => exact fun ρ1 H1 v e1 => h ρ1 H1 v (e.trans e1)
  | ex c fs env S => exact fun ρ1 H1 cls d σ' e1 => h ρ1 H1 cls d σ' (e.trans e1)
  | stuck => exact h
theorem PostF.fl {α : Type} {q : Rs α} {f : α → Store → Fl} {Q1 : Rho → Hp → α → Store → Prop} (h : PostF K mg hid ρ H (q.fl env f) D W) (re : RelE K hid ρ H σ env)
    (k : ∀ ρ1 H1 a S1, Ext ρ H ρ1 H1 → RelS K hid ρ1 H1 mg S1 → PostF K mg hid ρ1 H1 (f a S1) D W → Q1 ρ1 H1 a S1) : Post K mg hid ρ H q Q1 fun cls d H' => W cls d σ H' := by
  cases q with
  | ok a S => exact fun ρ1 H1 e1 r1 => k ρ1 H1 a S e1 r1 (PostF.ext e1 h)
  | ex c fs S => exact fun ρ1 H1 cls d e1 r1 x => h ρ1 H1 cls d σ e1 r1 (re.mono e1) x
  | stuck => exact h
theorem PostF.next (h : PostF K mg hid ρ H (.nx env S) D W) (r : RelS K hid ρ H mg S) (re : RelE K hid ρ H σ env) : D.nx σ H := h ρ H σ Ext.refl r re
end
section
variable (X : Cx) (W : WX)
def tS (f : MEnv → Store → Fl) : TS := fun D σ H => ∃ hid ρ env S, RelS X.K hid ρ H X.mg S ∧ RelE X.K hid ρ H σ env ∧ PostF X.K X.mg hid ρ H (f env S) D W
end
section
variable {X : Cx} {W : WX} {σ : L2.St} {H : Hp} {D : Ends} {c a b ce : CE} {cs : CEs} {e tg ea eb ec elt iter : PySem.Expr} {es : List PySem.Expr} {p pos : Pos} {t : Tg} {it : CI} {st : PySem.Stmt} {sts : List PySem.Stmt} {s : CS} {ss : CSs}
theorem tS.fl {α : Type} {f : MEnv → Store → Rs α} {g : MEnv → α → Store → Fl} {R1 : List Addr → Rho → Hp → α → Store → Prop} (h : tS X W (fun env S => (f env S).fl env (g env)) D σ H)
    (k : ∀ hid ρ1 H1 a S1 env, RelS X.K hid ρ1 H1 X.mg S1 → RelE X.K hid ρ1 H1 σ env → PostF X.K X.mg hid ρ1 H1 (g env a S1) D W → R1 hid ρ1 H1 a S1) : Go X W σ H f R1 := by
  obtain ⟨hid, ρ, env, S, r, re, p⟩ := h
  exact ⟨hid, ρ, env, S, r, re, p.fl re fun ρ1 H1 a S1 e1 r1 p1 => k hid ρ1 H1 a S1 env r1 (re.mono e1) p1⟩
theorem b_nil : PSs X [] (tS X W (exs .nil)) := PSs.imp pss_nil fun D σ H h => by
  obtain ⟨hid, ρ, env, S, r, re, p⟩ := h
  exact PostF.next (S := S) (env := env) p r re
theorem b_cons (h1 : PS X st (tS X W (ex s))) (h2 : PSs X sts (tS X W (exs ss))) : PSs X (st :: sts) (tS X W (exs (.cons s ss))) := by
  refine PSs.imp (pss_cons h1 h2) fun D σ H h => ?_
  obtain ⟨hid, ρ, env, S, r, re, p⟩ := h
  have p' : PostF X.K X.mg hid ρ H (match ex s env S with | .nx ρ' S' => exs ss ρ' S' | r => r) D W := p
  refine ⟨hid, ρ, env, S, r, re, ?_⟩
  cases q : ex s env S with
  | nx env' S' =>
    rw [q] at p'
    exact fun ρ1 H1 σ1 e1 r1 re1 => ⟨hid, ρ1, env', S', r1, re1, PostF.ext e1 p'⟩
  | ret d S' => rw [q] at p'; exact p'
  | ex c fs env' S' => rw [q] at p'; exact p'
  | stuck => rw [q] at p'; exact p'
theorem b_frz {i : Nat} (h2 : PSs X sts (tS X W (exs ss))) : PSs X sts (tS X W (exs (.frz i ss))) := by
  refine PSs.imp h2 fun D σ H h => ?_
  obtain ⟨hid, ρ, env, S, r, re, p⟩ := h
  have p' : PostF X.K X.mg hid ρ H (match env[i]? with
    | some (some (.ptr n)) => (match S[n]? with | some (.lst ds) => exs ss (env.set i (some (.lst ds))) (S.set n .dead) | _ => .stuck)
    | _ => .stuck) D W := p
  split at p'
  · rename_i n q
    split at p'
    · rename_i ds q2
      obtain ⟨v, h1, h2⟩ := re.at_ i _ q
      obtain ⟨a, ha, hl, xs, hx, rx⟩ := r.at_ q2 (by simp)
      have ev := h2.ptr_ref ha
      subst ev
      obtain ⟨f1, f2, f3, f4⟩ := r.freeze ha
      refine ⟨hid, _, _, _, f2, ⟨by rw [List.length_set]; exact re.len, fun j d hj => ?_⟩, PostF.ext f1 p'⟩
      by_cases hij : i = j
      · subst hij
        have hlt : i < env.length := (List.getElem?_eq_some_iff.mp q).1
        rw [List.getElem?_set_self hlt] at hj
        cases hj
        exact ⟨_, h1, .lst hx f3 f4 (rx.mono f1)⟩
      · rw [List.getElem?_set_ne hij] at hj
        obtain ⟨w, q1, q2⟩ := re.at_ j d hj
        exact ⟨w, q1, q2.mono f1⟩
    · exact p'.elim
  · exact p'.elim
/-! small ones -/
theorem asg_read (h : tS X W (ex (.asg t c)) D σ H) : tE X W c σ H fun v H' => gOf X.K t v σ H' D.nx := by
  have h' : tS X W (fun env S => (ev c env S).fl env fun d S => (match setT t d env with | some ρ' => .nx ρ' S | none => .stuck)) D σ H := h
  refine h'.fl fun hid ρ1 H1 d S1 env r1 e1 p1 v rv => ?_
  split at p1
  · rename_i env2 hs
    exact set_ok rv e1 hs fun σ2 re2 _ => PostF.next p1 r1 re2
  · exact p1.elim
def isComp : PySem.Expr → Bool
  | .ListComp _ _ _ _ => true
  | .SetComp _ _ _ _ => true
  | .DictComp _ _ _ _ _ => true
  | _ => false
theorem swaps_no {tgt : Option PySem.Expr} {l : Nat} {env : Env} (h : isComp e = false) : swapsWith e tgt l env = pure false := by
  cases e <;> first | rfl | cases h
def isTup : PySem.Expr → Bool
  | .Tuple _ _ _ => true
  | _ => false
theorem stores_no {ts : List PySem.Expr} {env : Env} (h : isTup e = false) : swappedStores ts e env = pure none := by
  cases e <;> first | (cases ts with | nil => rfl | cons x r => cases x <;> first | rfl | (cases r <;> rfl)) | cases h
/-- name = value -/
theorem s_set {i : Nat} {x : Str} {p' : Pos} (hN : X.N.Nodup) (hi : X.N[i]? = some x) (hx : Loc X.env.scope x) (hf : X.fn x = true ∨ X.env.scope.names.lookup x = some .local) (he : PE X e (tE X W c)) (hs : swapsWith e (some (.Name x p')) pos.line X.env = pure false) :
    PS X (.Assign [.Name x p'] e pos) (tS X W (ex (.asg (.name i) c))) := PS.imp (ps_set hN hi hx he hs hf) fun D σ H h => asg_read h
/-- name = [..], stored from within -/
theorem s_setC {i : Nat} {y : Str} {py spos : Pos} {m : Bool} {own : List (Str × Nat)} {co : CO} {scope : Scope} {ifs : List PySem.Expr} (tk : Takes X W) (hy : X.N[i]? = some y) (hyl : X.env.scope.names.lookup y = some .local)
    (hsw : swapsWith (.ListComp elt [⟨tg, iter, ifs, 0⟩] scope pos) (some (.Name y py)) spos.line X.env = pure true) (C : Comp X scope own t it co ce tg iter elt ifs) :
    PS X (.Assign [.Name y py] (.ListComp elt [⟨tg, iter, ifs, 0⟩] scope pos) spos) (tS X W (ex (.asg (.name i) (.new m (.comp own t it co ce))))) := by
  have h0 := ps_setLc (pos := pos) (spos := spos) C.hc C.hN hy hyl hsw (C.hi W tk) C.ok C.hg C.ht C.he C.hs
  refine PS.imp (PS.or h0 (ps_lock h0)) fun D σ H h => ?_
  rcases comp_lock (new_read (asg_read h)) with q | ⟨d, u, h1, h2, q⟩
  · exact .inl (lc_read C.hsl q)
  · exact .inr ⟨d, u, h1, h2, fun od => lc_read C.hsl (q od)⟩
/-- a, b, .. = a tuple -/
theorem assign_names {env : Env} : ∀ {es : List PySem.Expr}, (es.all fun e => match e with | .Name _ _ => true | _ => false) = true → (assignEach es env).length = es.length ∧ (assignEach es env).findIdx? (·.1) = none
  | [], _ => ⟨rfl, rfl⟩
  | e :: es, h => by
    simp only [List.all_cons, Bool.and_eq_true] at h
    obtain ⟨h1, h2⟩ := assign_names (env := env) h.2
    cases e with
    | Name x q =>
      have e0 : assignEach (.Name x q :: es) env = (false, assign (.Name x q) env) :: assignEach es env := rfl
      rw [e0]
      exact ⟨by rw [List.length_cons, List.length_cons, h1], by simp [List.findIdx?_cons, h2]⟩
    | _ => cases h.1
theorem pg_names (hN : X.N.Nodup) : ∀ {es : List PySem.Expr} {is : List Nat}, es.length = is.length → (∀ (j : Nat) (x : Str) (q : Pos), es[j]? = some (PySem.Expr.Name x q) → ∃ i, is[j]? = some i ∧ X.N[i]? = some x ∧ Loc X.env.scope x ∧ (X.fn x = true ∨ X.env.scope.names.lookup x = some .local)) →
    (es.all fun e => match e with | .Name _ _ => true | _ => false) = true → PGs X es (gNames is)
  | [], [], _, _, _ => pgs_nil
  | e :: es, i :: is, hl, h, ha => by
    simp only [List.all_cons, Bool.and_eq_true] at ha
    cases e with
    | Name x q =>
      obtain ⟨i', h1, h2, h3, h4⟩ := h 0 x q rfl
      cases h1
      refine pgs_cons (pg_name hN h2 h3 h4) (pg_names hN (by simpa using hl) (fun j y q' hj => ?_) ha.2) rfl
      obtain ⟨i2, g1, g2⟩ := h (j + 1) y q' (by simpa using hj)
      exact ⟨i2, by simpa using g1, g2⟩
    | _ => cases ha.1
theorem pg_tg {is : List Nat} {k : Nat} (hc : X.calm = true) (hN : X.N.Nodup) (hl : es.length = is.length) (h : ∀ (j : Nat) (x : Str) (q : Pos), es[j]? = some (.Name x q) → ∃ i, is[j]? = some i ∧ X.N[i]? = some x ∧ Loc X.env.scope x ∧ (X.fn x = true ∨ X.env.scope.names.lookup x = some .local))
    (ha : (es.all fun e => match e with | .Name _ _ => true | _ => false) = true) : PG X (.Tuple es k pos) (gOf X.K (.tup is)) := by
  obtain ⟨h1, h2⟩ := assign_names (env := X.env) ha
  exact pg_tup hc (pg_names hN hl h ha) (by rw [h1, hl]) h2
theorem s_unpack {is : List Nat} {k : Nat} {tp : Pos} (hg : PG X (.Tuple es k tp) (gOf X.K (.tup is))) (he : PE X e (tE X W c)) (h1 : isComp e = false) (h2 : isTup e = false) :
    PS X (.Assign [.Tuple es k tp] e pos) (tS X W (ex (.asg (.tup is) c))) :=
  PS.imp (ps_asg he hg (show swapsWithSole [.Tuple es k tp] e pos.line X.env = pure false from (swaps_no h1 : swapsWith e (some (.Tuple es k tp)) pos.line X.env = pure false)) (stores_no h2)) fun D σ H h => asg_read h
/-- a, b = x, y -/
theorem s_par {i j : Nat} {x y : Str} {px py pt pt2 : Pos} {kt k2 : Nat} (hc : X.calm = true) (hN : X.N.Nodup) (hi : X.N[i]? = some x) (hj : X.N[j]? = some y) (hij : i ≠ j) (hx : X.env.scope.names.lookup x = some .local) (hy : X.env.scope.names.lookup y = some .local)
    (ha : PE X ea (tE X W a)) (hb : PE X eb (tE X W b)) (sa : isStar ea = false) (sb : isStar eb = false) (hw : swappedStores [.Tuple [.Name x px, .Name y py] kt pt] (.Tuple [ea, eb] k2 pt2) X.env = pure (some [x, y])) :
    PS X (.Assign [.Tuple [.Name x px, .Name y py] kt pt] (.Tuple [ea, eb] k2 pt2) pos) (tS X W (ex (.par i j a b))) := by
  refine PS.imp (ps_par hc hN hi hj hij hx hy (pa_cons ha (pa_cons hb pa_nil (star_cons sb _ _)) (star_cons sa _ _)) hw) fun D σ H h => ?_
  have h' : tS X W (fun env S => (ev a env S).fl env fun x S => (ev b env S).fl env fun y S => .nx ((env.set i (some x)).set j (some y)) S) D σ H := h
  refine h'.fl fun hid ρ1 H1 dx S1 env r1 e1 p1 v rv => ?_
  refine ⟨hid, ρ1, env, S1, r1, e1, p1.fl e1 fun ρ2 H2 dy S2 x2 r2 p2 w rw' => ?_⟩
  exact ⟨v, w, rfl, PostF.next p2 r2 (((e1.mono x2).set (rv.mono x2)).set rw')⟩
theorem s_ret (he : PE X e (tE X W c)) : PS X (.Return (some e) pos) (tS X W (ex (.ret c))) := PS.imp (ps_ret he) fun D σ H h => by
  have h' : tS X W (fun env S => (ev c env S).fl env fun d S => .ret d S) D σ H := h
  exact h'.fl fun hid ρ1 H1 d S1 env r1 e1 p1 v rv => p1 ρ1 H1 v Ext.refl r1 rv
theorem s_retN : PS X (.Return none pos) (tS X W (ex .retN)) := PS.imp ps_retN fun D σ H h => by
  obtain ⟨hid, ρ, env, S, r, re, p⟩ := h
  have p' : PostF X.K X.mg hid ρ H (.ret .non S) D W := p
  exact p' ρ H _ Ext.refl r .non
theorem s_pass : PS X (.Pass pos) (tS X W (ex .pass)) := PS.imp ps_pass fun D σ H h => by
  obtain ⟨hid, ρ, env, S, r, re, p⟩ := h
  exact PostF.next (S := S) (env := env) p r re
theorem s_drop (he : PE X e (tE X W c)) (h1 : isComp e = false) : PS X (.Expr e pos) (tS X W (ex (.drop c))) := PS.imp (ps_expr he (swaps_no h1)) fun D σ H h => by
  have h' : tS X W (fun env S => (ev c env S).fl env fun d S => .nx env S) D σ H := h
  exact h'.fl fun hid ρ1 H1 d S1 env r1 e1 p1 v rv => PostF.next p1 r1 e1
theorem s_doc {x : Str} {j : Nat} {q : Pos} : PS X (.Expr (.Constant (.str x) j q) pos) (tS X W (ex .pass)) := PS.imp ps_doc fun D σ H h => by
  obtain ⟨hid, ρ, env, S, r, re, p⟩ := h
  exact PostF.next (S := S) (env := env) p r re
theorem s_aug {i : Nat} {x : Str} {p' : Pos} (hN : X.N.Nodup) (hi : X.N[i]? = some x) (hx : Loc X.env.scope x) (hf : X.fn x = true ∨ X.env.scope.names.lookup x = some .local) (he : PE X e (tE X W c)) : PS X (.AugAssign (.Name x p') .Add e pos) (tS X W (ex (.aug i c))) := by
  refine PS.imp (ps_aug hN hi hx he ip_add hf) fun D σ H h => ?_
  obtain ⟨hid, ρ, env, S, r, re, p⟩ := h
  have p' : PostF X.K X.mg hid ρ H (match env[i]? with
    | some (some (.int x)) => (ev c env S).fl env fun d S => (match d with | .int y => .nx (env.set i (some (.int (x + y)))) S | _ => .stuck)
    | _ => .stuck) D W := p
  split at p'
  · rename_i z q
    obtain ⟨v, h1, h2⟩ := re.at_ i _ q
    cases h2
    refine ⟨_, h1, hid, ρ, env, S, r, re, p'.fl re fun ρ1 H1 d S1 e1 r1 p1 w rw' => ?_⟩
    split at p1
    · cases rw'
      exact ⟨_, _, rfl, rfl, PostF.next p1 r1 ((re.mono e1).set (.int _))⟩
    · exact p1.elim
  · exact p'.elim
theorem s_ifs {as bs : List PySem.Stmt} {ca cb : CSs} (hc : PT X ec (tT X W c)) (ha : PSs X as (tS X W (exs ca))) (hb : PSs X bs (tS X W (exs cb))) : PS X (.If ec as bs pos) (tS X W (ex (.ifs c ca cb))) := by
  refine PS.imp (ps_if hc ha hb) fun D σ H h => ?_
  have h' : tS X W (fun env S => (ev c env S).fl env fun x S => (match x with | .bl true => exs ca env S | .bl false => exs cb env S | _ => .stuck)) D σ H := h
  refine h'.fl fun hid ρ1 H1 d S1 env r1 e1 p1 => ?_
  split at p1
  · exact ⟨true, rfl, hid, ρ1, env, S1, r1, e1, p1⟩
  · exact ⟨false, rfl, hid, ρ1, env, S1, r1, e1, p1⟩
  · exact p1.elim
end
end MI
namespace MI
open PySem PySem.Spec L2
section
variable {X : Cx} {W : WX} {σ : L2.St} {H : Hp} {D : Ends} {c a b ce : CE} {cs : CEs} {e tg ea eb ec elt iter eo ei : PySem.Expr} {es : List PySem.Expr} {p pos : Pos} {t : Tg} {it : CI} {body : List PySem.Stmt} {ss : CSs}
/-! ### loops -/
def turnF (t : Tg) (b : CSs) (d : MI.D) (ρ : MEnv) (S : Store) : Fl := match setT t d ρ with | some ρ' => exs b ρ' S | none => .stuck
def exF (t : Tg) (it : CI) (b : CSs) (ρ : MEnv) (S : Store) : Fl := (evI it ρ S).fl ρ fun items S => forL (turnF t b) items ρ S
theorem s_for0 (po : PassesOwn (model X.prog X.w) X.A X.env X.xe) (hc : X.calm = true) (hi : PI X tg iter (tI X W it)) (hg : PG X tg (gOf X.K t)) (hb : PSs X body (tS X W (exs ss))) (hs : ∀ x, foldedSetIterable iter X.env x = pure x) :
    PS X (.For tg iter body [] pos) (tS X W (exF t it ss)) := by
  refine PS.imp (ps_for po hc hi hg hb hs) fun D σ H h => ?_
  have h' : tS X W (fun env S => (evI it env S).fl env fun items S => forL (turnF t ss) items env S) D σ H := h
  refine h'.fl fun hid ρ1 H1 items S1 env r1 e1 p1 J wk => ?_
  refine ⟨fun i m σ H => m = items.length - i ∧ i ≤ items.length ∧ ∃ ρi envi Si, Ext ρ1 H1 ρi H ∧ RelS X.K hid ρi H X.mg Si ∧ RelE X.K hid ρi H σ envi ∧ PostF X.K X.mg hid ρi H (forL (turnF t ss) (items.drop i) envi Si) D W,
    ⟨_, rfl, Nat.zero_le _, ρ1, env, S1, Ext.refl, r1, e1, p1⟩, ?_⟩
  rintro i m σ2 H2 ⟨rfl, hle, ρi, envi, Si, xi, ri, rei, pi⟩
  by_cases hlt : i < items.length
  · refine .inr ⟨wk.go i ρi H2 xi hlt, fun σ' H' => i + 1 ≤ items.length ∧ ∃ ρi envi Si, Ext ρ1 H1 ρi H' ∧ RelS X.K hid ρi H' X.mg Si ∧ RelE X.K hid ρi H' σ' envi ∧ PostF X.K X.mg hid ρi H' (forL (turnF t ss) (items.drop (i + 1)) envi Si) D W,
      fun σ' H' n => ⟨items.length - (i + 1), by omega, rfl, n.1, n.2⟩, fun x H3 y => ?_⟩
    obtain ⟨x3, r3, d, hd, rx⟩ := wk.yl i hid ρi H2 Si x H3 xi xi.cv ri hlt y
    have hdrop : items.drop i = d :: items.drop (i + 1) := by
      rw [List.drop_eq_getElem_cons hlt]
      have q : items[i]? = some items[i] := List.getElem?_eq_getElem hlt
      rw [q] at hd
      cases hd
      rfl
    rw [hdrop] at pi
    have pi' : PostF X.K X.mg hid ρi H2 (match (match setT t d envi with | some ρ' => exs ss ρ' Si | none => .stuck) with
      | .nx ρ' S' => forL (turnF t ss) (items.drop (i + 1)) ρ' S'
      | r => r) D W := pi
    cases hset : setT t d envi with
    | none => rw [hset] at pi'; exact pi'.elim
    | some env2 =>
      rw [hset] at pi'
      refine set_ok rx (rei.mono x3) hset fun σ3 re3 _ => ⟨hid, ρi, env2, Si, r3, re3, ?_⟩
      have pi2 : PostF X.K X.mg hid ρi H2 (match exs ss env2 Si with
        | .nx ρ' S' => forL (turnF t ss) (items.drop (i + 1)) ρ' S'
        | r => r) D W := pi'
      cases q : exs ss env2 Si with
      | nx env3 S3 =>
        rw [q] at pi2
        exact fun ρ4 H4 σ4 x4 r4 re4 => ⟨hlt, ρ4, env3, S3, (xi.trans x3).trans x4, r4, re4, PostF.ext (x3.trans x4) pi2⟩
      | ret dd S3 => rw [q] at pi2; exact fun ρ4 H4 v x4 r4 rv => pi2 ρ4 H4 v (x3.trans x4) r4 rv
      | ex cc fs env3 S3 => rw [q] at pi2; exact fun ρ4 H4 cls d' σ' x4 r4 re4 z => pi2 ρ4 H4 cls d' σ' (x3.trans x4) r4 re4 z
      | stuck => rw [q] at pi2; exact pi2.elim
  · have hnil : items.drop i = [] := List.drop_eq_nil_of_le (by omega)
    rw [hnil] at pi
    exact .inl ⟨wk.stop i ρi H2 xi (by omega), PostF.next (S := Si) (env := envi) pi ri rei⟩
theorem s_for (po : PassesOwn (model X.prog X.w) X.A X.env X.xe) (hc : X.calm = true) (hi : PI X tg iter (tI X W it)) (hg : PG X tg (gOf X.K t)) (hb : PSs X body (tS X W (exs ss))) (hs : ∀ x, foldedSetIterable iter X.env x = pure x) :
    PS X (.For tg iter body [] pos) (tS X W (ex (.for_ t it ss))) := by
  have h0 := s_for0 (pos := pos) po hc hi hg hb hs
  refine PS.imp (PS.or h0 (ps_lock h0)) fun D σ H h => ?_
  obtain ⟨hid, ρ, env, S, r, re, p⟩ := h
  have p' : PostF X.K X.mg hid ρ H ((exF t it ss env (lockI it env S).1).unlock (lockI it env S).2) D W := p
  cases q : (lockI it env S).2 with
  | none =>
    rw [q, lock_none q] at p'
    refine .inl ⟨hid, ρ, env, S, r, re, ?_⟩
    cases z : exF t it ss env S with
    | nx env2 S2 => rw [z] at p'; exact p'
    | ret d S2 => rw [z] at p'; exact p'
    | ex cc fs env2 S2 => rw [z] at p'; exact p'
    | stuck => rw [z] at p'; exact p'
  | some l =>
    obtain ⟨n, cc⟩ := l
    rw [q] at p'
    obtain ⟨a, u, L⟩ := lock_open r q
    refine .inr ⟨a, u, L.at_, L.mu, fun od => ?_⟩
    obtain ⟨e1, r1, k⟩ := L.run od
    refine ⟨hid, ρ, env, (lockI it env S).1, r1, re.mono e1, ?_⟩
    cases z : exF t it ss env (lockI it env S).1 with
    | nx env2 S2 =>
      rw [z] at p'
      have p2 : PostF X.K X.mg hid ρ H (match unl (some (n, cc)) S2 with | some S => .nx env2 S | none => .stuck) D W := p'
      intro ρ' H' σ' x r' re'
      split at p2
      · rename_i S3 hs
        have O := k ρ' H' S2 S3 x r' hs
        exact ⟨O.at_, p2 ρ' (upd H' a u) σ' O.ext O.rel ⟨re'.len, fun j d hj => let ⟨v, q1, q2⟩ := re'.at_ j d hj; ⟨v, q1, Rep.conv O.cv d q2⟩⟩⟩
      · exact p2.elim
    | ret d S2 =>
      rw [z] at p'
      have p2 : PostF X.K X.mg hid ρ H (match unl (some (n, cc)) S2 with | some S => .ret d S | none => .stuck) D W := p'
      intro ρ' H' v x r' rv
      split at p2
      · rename_i S3 hs
        have O := k ρ' H' S2 S3 x r' hs
        exact ⟨O.at_, p2 ρ' (upd H' a u) v O.ext O.rel (Rep.conv O.cv d rv)⟩
      · exact p2.elim
    | ex c0 fs env2 S2 =>
      rw [z] at p'
      have p2 : PostF X.K X.mg hid ρ H (.ex c0 fs env2 S2) D W := p'
      exact fun ρ' H' cls d σ' x r' re' xr => p2 ρ' H' cls d σ' (e1.trans x) r' re' xr
    | stuck => rw [z] at p'; exact p'.elim
theorem s_while {n : Nat} (po : PassesOwn (model X.prog X.w) X.A X.env X.xe) (hc : PT X ec (tT X W c)) (hb : PSs X body (tS X W (exs ss))) : PS X (.While ec body [] pos) (tS X W (ex (.while_ n c ss))) := by
  refine PS.imp (ps_while po hc hb) fun D σ H h => ?_
  refine ⟨fun m σ H => ∃ hid ρ env S, RelS X.K hid ρ H X.mg S ∧ RelE X.K hid ρ H σ env ∧ PostF X.K X.mg hid ρ H (whileL (ev c) (exs ss) m env S) D W, ⟨n, h⟩, ?_⟩
  rintro m σ H ⟨hid, ρ, env, S, r, re, p⟩
  cases m with
  | zero => exact p.elim
  | succ m =>
    have p' : PostF X.K X.mg hid ρ H ((ev c env S).fl env fun x S => (match x with
      | .bl true => (match exs ss env S with
        | .nx ρ' S' => whileL (ev c) (exs ss) m ρ' S'
        | r => r)
      | .bl false => .nx env S
      | _ => .stuck)) D W := p
    refine ⟨hid, ρ, env, S, r, re, p'.fl re fun ρ1 H1 x S1 e1 r1 p1 => ?_⟩
    split at p1
    · refine ⟨true, rfl, ?_⟩
      refine iteT ⟨fun σ' H' => ∃ hid ρ env S, RelS X.K hid ρ H' X.mg S ∧ RelE X.K hid ρ H' σ' env ∧ PostF X.K X.mg hid ρ H' (whileL (ev c) (exs ss) m env S) D W, fun σ' H' q => ⟨m, Nat.lt_succ_self _, q⟩, hid, ρ1, env, S1, r1, re.mono e1, ?_⟩
      cases q : exs ss env S1 with
      | nx env3 S3 =>
        rw [q] at p1
        exact fun ρ4 H4 σ4 x4 r4 re4 => ⟨hid, ρ4, env3, S3, r4, re4, PostF.ext x4 p1⟩
      | ret dd S3 => rw [q] at p1; exact p1
      | ex cc fs env3 S3 => rw [q] at p1; exact p1
      | stuck => rw [q] at p1; exact p1
    · exact ⟨false, rfl, iteF (PostF.next p1 r1 (re.mono e1))⟩
    · exact p1.elim
/-! ### stores -/
/-- o[i] = v, by values -/
def rPut (X : Cx) : TSet := fun o i v H Q => ∃ hid ρ S do_ di dv S', RelS X.K hid ρ H X.mg S ∧ Rep X.K hid ρ H o do_ ∧ Rep X.K hid ρ H i di ∧ Rep X.K hid ρ H v dv ∧ (if isDict do_ S then dPut do_ di dv S else putL do_ di dv S) = some S' ∧
  ∀ ρ' H', Ext ρ H ρ' H' → RelS X.K hid ρ' H' X.mg S' → Q H'
theorem ltL_set {dv : MI.D} {n : Nat} : ∀ (ds : List MI.D) (j : Nat), ltL ds n = true → dv.lt n = true → ltL (ds.set j dv) n = true
  | [], _, h, _ => h
  | d :: ds, 0, h, hd => by
    have h' : d.lt n = true ∧ ltL ds n = true := by simpa [ltL] using h
    simp [ltL, hd, h'.2]
  | d :: ds, j + 1, h, hd => by
    have h' : d.lt n = true ∧ ltL ds n = true := by simpa [ltL] using h
    simp [ltL, h'.1, ltL_set ds j h'.2 hd]
theorem ltL_snoc {dv : MI.D} {n : Nat} : ∀ (ds : List MI.D), ltL ds n = true → dv.lt n = true → ltL (ds ++ [dv]) n = true
  | [], _, hd => by simp [ltL, hd]
  | d :: ds, h, hd => by
    have h' : d.lt n = true ∧ ltL ds n = true := by simpa [ltL] using h
    simp [ltL, h'.1, ltL_snoc ds h'.2 hd]
theorem put_ok (hu : X.A.units + 65 < cLine) : PSet X (rPut X) := by
  intro pins s σ H o i v ov iv u Q I ro ri rv h
  obtain ⟨hid, ρ, S, do_, di, dv, S', r, ho, hi, hv, hp, k⟩ := h
  split at hp
  · unfold dPut at hp
    split at hp
    · rename_i n
      split at hp
      · rename_i hlt
        split at hp
        · rename_i kvs q
          split at hp
          · rename_i hz
            obtain ⟨kk, hk, rfl⟩ := Option.map_eq_some_iff.mp hp
            obtain ⟨a, ha, hls, ks, h1, h2⟩ := r.at_ q (by simp)
            have eo := ho.ptr_ref ha
            subst eo
            have ei := toKey_rep hi hk
            subst ei
            cases ro
            have nf : ∀ q u, H a ≠ some (.frz q u) := fun q u z => by rw [h1] at z; cases z
            have hm : some a ∈ ρ := List.mem_of_getElem? ha
            obtain ⟨x1, r1⟩ := r.write (o := .dK (putK ks kk v)) (c := .dK (putD kvs kk dv)) ha nf ⟨putD_lt hls hlt, _, upd_same, kv_put (h2.imp fun d v z => Rep.conv (Cv.cell hm) d z) (Rep.conv (Cv.cell hm) _ hv)⟩
            exact d_setItem (by omega) I (DPut.k h1 (lt_line (by rw [kv_len h2]; exact hz))) ri rv fun s' I' => ⟨_, I', k _ _ x1 r1⟩
          · cases hp
        · rename_i kvs q
          split at hp
          · rename_i hz
            split at hp
            · rename_i ds
              obtain ⟨kk, hk, rfl⟩ := Option.map_eq_some_iff.mp hp
              obtain ⟨a, ha, hls, ks, h1, h2⟩ := r.at_ q (by simp)
              have eo := ho.ptr_ref ha
              subst eo
              cases hi with
              | tup g1 g2 g3 g4 =>
                have ei := toKeys_rep g4 hk
                subst ei
                cases ro
                have nf : ∀ q u, H a ≠ some (.frz q u) := fun q u z => by rw [h1] at z; cases z
                have hm : some a ∈ ρ := List.mem_of_getElem? ha
                obtain ⟨x1, r1⟩ := r.write (o := .dT (putK ks kk v)) (c := .dT (putD kvs kk dv)) ha nf ⟨putD_lt hls hlt, _, upd_same, kv_put (h2.imp fun d v z => Rep.conv (Cv.cell hm) d z) (Rep.conv (Cv.cell hm) _ hv)⟩
                exact d_setItem (by omega) I (DPut.t h1 g1 (lt_line (by rw [kv_len h2]; exact hz))) ri rv fun s' I' => ⟨_, I', k _ _ x1 r1⟩
            · cases hp
          · cases hp
        · cases hp
      · cases hp
    · cases hp
  · unfold putL at hp
    split at hp
    · rename_i n
      split at hp
      · rename_i hlt
        split at hp
        · rename_i ds q
          split at hp
          · rename_i kk
            obtain ⟨j, hj, rfl⟩ := Option.map_eq_some_iff.mp hp
            obtain ⟨a, ha, hls, xs, h1, h2⟩ := r.at_ q (by simp)
            have eo := ho.ptr_ref ha
            subst eo
            cases hi
            have nf : ∀ q u, H a ≠ some (.frz q u) := fun q u z => by rw [h1] at z; cases z
            have hm : some a ∈ ρ := List.mem_of_getElem? ha
            have hl2 := ltL_set ds j hls hlt
            obtain ⟨x1, r1⟩ := r.write (o := .lst (xs.set j v)) (c := .lst (ds.set j dv)) ha nf ⟨hl2, _, upd_same, RepL.set (Rep.conv (Cv.cell hm) _ hv) j (RepL.conv (Cv.cell hm) _ h2)⟩
            exact set_list pins s σ H _ _ v ov iv u Q I ro ri rv ⟨a, xs, kk, j, rfl, rfl, h1, by rw [h2.length]; exact hj, k _ _ x1 r1⟩
          · cases hp
        · cases hp
      · cases hp
    · cases hp
theorem s_put {co ci cv : CE} {p' : Pos} (hu : X.A.units + 65 < cLine) (ho : PE X eo (tE X W co)) (hi : PE X ei (tE X W ci)) (he : PE X e (tE X W cv)) (h1 : isComp e = false) (h2 : isTup e = false) (h3 : isSlice ei = false) :
    PS X (.Assign [.Subscript eo ei p'] e pos) (tS X W (ex (.put co ci cv))) := by
  have hg : PG X (.Subscript eo ei p') (gSub (tE X W co) (tE X W ci) (rPut X)) := pg_sub ho hi (put_ok hu) (by intro v; cases ei <;> first | rfl | cases h3)
  refine PS.imp (ps_asg he hg (show swapsWithSole [.Subscript eo ei p'] e pos.line X.env = pure false from (swaps_no h1 : swapsWith e (some (.Subscript eo ei p')) pos.line X.env = pure false)) (stores_no h2)) fun D σ H h => ?_
  have h' : tS X W (fun env S => (ev cv env S).fl env fun d S => (ev co env S).fl env fun x S => (ev ci env S).fl env fun k S => (match (if isDict x S then dPut x k d S else putL x k d S) with | some S' => .nx env S' | none => .stuck)) D σ H := h
  refine h'.fl fun hid ρ1 H1 d S1 env r1 e1 p1 v rv => ?_
  refine ⟨hid, ρ1, env, S1, r1, e1, p1.fl e1 fun ρ2 H2 x S2 x2 r2 p2 o ro => ?_⟩
  refine ⟨hid, ρ2, env, S2, r2, e1.mono x2, p2.fl (e1.mono x2) fun ρ3 H3 k S3 x3 r3 p3 i ri => ?_⟩
  split at p3
  · rename_i S4 hs
    exact ⟨hid, ρ3, S3, x, k, d, S4, r3, ro.mono x3, ri, rv.mono (x2.trans x3), hs, fun ρ' H' x4 r4 => (PostF.ext x4 p3).next r4 (((e1.mono x2).mono x3).mono x4)⟩
  · exact p3.elim
/-! ### append -/
theorem few_ok {env : Env} {cpos : Pos} (hs : isStar e = false) : ((backTo cpos (starEach [e] env)).all (fun x => !x.1) && (backToKw cpos (keywordEach [] env)).all (fun x => x.1.isSome)
      && decide (([e] : List PySem.Expr).length + ([] : List Keyword).length + (if ([] : List Keyword).isEmpty then 0 else 1) < 30)) = true := by
  rw [star_cons hs]; rfl
def isCall : PySem.Expr → Bool
  | .Call _ _ _ _ => true
  | _ => false
theorem base_no {attr : Str} {env : Env} {whole : Sem Value} (h : isCall eo = false) : attributeBase eo attr env whole = whole := by
  cases eo <;> first | rfl | cases h
theorem s_app {co cv : CE} {apos cpos : Pos} (ho : PE X eo (tE X W co)) (he : PE X e (tE X W cv)) (hs : isStar e = false) (hb : isCall eo = false) (hl : (apos.endLine == cpos.line) = true) :
    PS X (.Expr (.Call (.Attribute eo "append" apos) [e] [] cpos) pos) (tS X W (ex (.app co cv))) := by
  have st := star_cons hs [] X.env
  have q : PE X (.Call (.Attribute eo "append" apos) [e] [] cpos) (tBM X.K "list" rAppend (tE X W co) (tCons (tE X W cv) tNil)) :=
    pe_bm PySem.F.plainAttrs_list PySem.F.slot_list_append PySem.F.type_list_append mt_append ho (pa_cons he pa_nil st) (base_no hb) (few_ok hs) hl st rfl
  refine PS.imp (ps_expr q) fun D σ H h => ?_
  have h' : tS X W (fun env S => (ev co env S).fl env fun x S => if isCellL x S then (ev cv env S).fl env fun d S => (match appL x d S with | some S' => .nx env S' | none => .stuck) else .stuck) D σ H := h
  refine h'.fl fun hid ρ1 H1 x S1 env r1 e1 p1 o ro => ?_
  split at p1
  · rename_i hcell
    refine ⟨?_, hid, ρ1, env, S1, r1, e1, p1.fl e1 fun ρ2 H2 d S2 x2 r2 p2 v rv => ?_⟩
    · unfold isCellL at hcell
      split at hcell
      · split at hcell
        · rename_i q
          obtain ⟨a, ha, _, xs, hx, _⟩ := r1.at_ q (by simp)
          rw [ro.ptr_ref ha]
          exact .inl ⟨rfl, _, .inl (.inl hx)⟩
        · cases hcell
      · cases hcell
    · split at p2
      · rename_i S3 hs3
        unfold appL at hs3
        split at hs3
        · rename_i n
          split at hs3
          · rename_i hlt
            split at hs3
            · rename_i ds q
              split at hs3
              · rename_i hz
                cases hs3
                obtain ⟨a, ha, hls, xs, hx, rl⟩ := r2.at_ q (by simp)
                have eo := (ro.mono x2).ptr_ref ha
                subst eo
                have nf : ∀ q u, H2 a ≠ some (.frz q u) := fun q u z => by rw [hx] at z; cases z
                have hm : some a ∈ ρ2 := List.mem_of_getElem? ha
                have hl2 := ltL_snoc ds hls hlt
                obtain ⟨x3, r3⟩ := r2.write (o := .lst (xs ++ [v])) (c := .lst (ds ++ [d])) ha nf ⟨hl2, _, upd_same, (RepL.conv (Cv.cell hm) _ rl).append (.cons (Rep.conv (Cv.cell hm) _ rv) .nil)⟩
                exact ⟨a, xs, v, rfl, rfl, hx, lt_line (by rw [rl.length]; exact hz), (PostF.ext x3 p2).next r3 ((e1.mono x2).mono x3)⟩
              · cases hs3
            · cases hs3
          · cases hs3
        · cases hs3
      · exact p2.elim
  · exact p1.elim
end
end MI
namespace MI
open PySem PySem.Spec L2
/-! ### a def's own cells are dropped -/
structure Sub (n : Nat) (ρ ρ' : Rho) : Prop where
  len : n ≤ ρ'.length
  slot : ∀ k, k < n → ρ'[k]? = ρ[k]?
  mem : ∀ a, some a ∈ ρ' → some a ∈ ρ
section
variable {K : PySem.W.Frag} {mg : Str → Option Value} {hid : List Addr} {ρ ρ' : Rho} {H : Hp} {n : Nat} {S : Store}
mutual
theorem Rep.sub (s : Sub n ρ ρ') : ∀ (d : D) {v : V}, d.lt n = true → Rep K hid ρ H v d → Rep K hid ρ' H v d
  | .non, _, _, h => by cases h; exact .non
  | .bl b, _, _, h => by cases h; exact .bl b
  | .int b, _, _, h => by cases h; exact .int b
  | .str b, _, _, h => by cases h; exact .str b
  | .tup ds, _, l, h => by
    cases h with
    | tup h1 h2 h3 h4 => exact .tup h1 (fun z => h2 (s.mem _ z)) h3 (RepL.sub s ds l h4)
  | .lst ds, _, l, h => by
    cases h with
    | lst h1 h2 h3 h4 => exact .lst h1 (fun z => h2 (s.mem _ z)) h3 (RepL.sub s ds l h4)
  | .con ds, _, l, h => by
    cases h with
    | con h1 h4 => exact .con h1 (RepL.sub s ds l h4)
  | .scr ds, _, l, h => by
    cases h with
    | scr h1 h4 =>
      refine .scr ?_ (RepL.sub s ds l h4)
      rcases h1 with h | ⟨o, p1, p2, p3⟩
      · exact .inl h
      · exact .inr ⟨o, p1, fun z => p2 (s.mem _ z), p3⟩
  | .ptr m, v, l, h => by
    have hm : m < n := by simpa [D.lt] using l
    cases h with
    | ptr h1 h2 => exact .ptr (Nat.lt_of_lt_of_le hm s.len) fun a ha => h2 a (by rw [s.slot m hm] at ha; exact ha)
theorem RepL.sub (s : Sub n ρ ρ') : ∀ (ds : List D) {vs : List V}, ltL ds n = true → RepL K hid ρ H vs ds → RepL K hid ρ' H vs ds
  | [], _, _, h => by cases h; exact .nil
  | d :: ds, _, l, h => by
    have l' : d.lt n = true ∧ ltL ds n = true := by simpa [ltL] using l
    cases h with
    | cons h1 h2 => exact .cons (Rep.sub s d l'.1 h1) (RepL.sub s ds l'.2 h2)
end
theorem RepKV.sub {κ : Type} (s : Sub n ρ ρ') : ∀ {ks : List (κ × V)} {kvs : List (κ × D)}, (∀ kv ∈ kvs, kv.2.lt n = true) → RepKV K hid ρ H ks kvs → RepKV K hid ρ' H ks kvs
  | _, _, _, .nil => .nil
  | _, _, l, .cons q h => .cons ⟨q.1, Rep.sub s _ (l _ List.mem_cons_self) q.2⟩ (RepKV.sub s (fun kv hk => l kv (List.mem_cons_of_mem _ hk)) h)
mutual
theorem D.lt_mono {m n : Nat} (h : m ≤ n) : ∀ (d : D), d.lt m = true → d.lt n = true
  | .non, _ => rfl
  | .bl _, _ => rfl
  | .int _, _ => rfl
  | .str _, _ => rfl
  | .tup ds, l => ltL_mono h ds l
  | .lst ds, l => ltL_mono h ds l
  | .con ds, l => ltL_mono h ds l
  | .scr ds, l => ltL_mono h ds l
  | .ptr k, l => by
    have l' : k < m := by simpa [D.lt] using l
    simp [D.lt]; omega
theorem ltL_mono {m n : Nat} (h : m ≤ n) : ∀ (ds : List D), ltL ds m = true → ltL ds n = true
  | [], _ => rfl
  | d :: ds, l => by
    have l' : d.lt m = true ∧ ltL ds m = true := by simpa [ltL] using l
    simp [ltL, D.lt_mono h d l'.1, ltL_mono h ds l'.2]
end
theorem RepC.sub {m : Nat} {a : Addr} {c : Cell} (s : Sub n ρ ρ') (h : m ≤ n) (r : RepC K hid ρ H mg m a c) : RepC K hid ρ' H mg m a c := by
  cases c with
  | dead => exact r
  | lst ds => obtain ⟨l, xs, e, r⟩ := r; exact ⟨l, xs, e, RepL.sub s ds (ltL_mono h ds l) r⟩
  | lkl ds => obtain ⟨l, xs, o, e, r⟩ := r; exact ⟨l, xs, o, e, RepL.sub s ds (ltL_mono h ds l) r⟩
  | dK ds => obtain ⟨l, xs, e, r⟩ := r; exact ⟨l, xs, e, RepKV.sub s (fun kv hk => D.lt_mono h _ (l kv hk)) r⟩
  | dT ds => obtain ⟨l, xs, e, r⟩ := r; exact ⟨l, xs, e, RepKV.sub s (fun kv hk => D.lt_mono h _ (l kv hk)) r⟩
  | lkd ds => obtain ⟨l, xs, o, e, r⟩ := r; exact ⟨l, xs, o, e, RepKV.sub s (fun kv hk => D.lt_mono h _ (l kv hk)) r⟩
  | ins c fs => obtain ⟨l, C, dx, gs, e, m', r⟩ := r; exact ⟨l, C, dx, gs, e, m', RepKV.sub s (fun kv hk => D.lt_mono h _ (l kv hk)) r⟩
theorem sub_take (R : RelS K hid ρ H mg S) (h : n ≤ S.length) : Sub n ρ (ρ.take n) :=
  ⟨by rw [List.length_take, R.len]; omega, fun k hk => List.getElem?_take_of_lt hk, fun a ha => List.mem_of_mem_take ha⟩
theorem RelS.take (R : RelS K hid ρ H mg S) (h : n ≤ S.length) : RelS K hid (ρ.take n) H mg (S.take n) := by
  have s := sub_take R h
  refine ⟨by rw [List.length_take, List.length_take, R.len], fun i j a h1 h2 => ?_, fun m c hc => ?_, fun a ha => ?_⟩
  · rw [List.getElem?_take] at h1 h2
    split at h1
    · split at h2
      · exact R.nd i j a h1 h2
      · cases h2
    · cases h1
  · rw [List.getElem?_take] at hc
    split at hc
    · rename_i hm
      rw [List.getElem?_take_of_lt hm]
      rcases R.cells m c hc with q | ⟨a, q, r⟩
      · exact .inl q
      · exact .inr ⟨a, q, r.sub s (Nat.le_of_lt hm)⟩
    · cases hc
  · obtain ⟨h1, h2⟩ := R.hidd a ha
    exact ⟨h1, fun z => h2 (s.mem a z)⟩
theorem Ext.sub {ρ0 : Rho} {H0 : Hp} (e : Ext ρ0 H0 ρ H) (s : Sub ρ0.length ρ ρ') : Ext ρ0 H0 ρ' H :=
  ⟨s.len, fun k hk => by rw [s.slot k hk]; exact e.slot k hk, fun b o h1 h2 => by
    obtain ⟨q1, q2⟩ := e.keep b o h1 h2
    exact ⟨q1, fun z => q2 (s.mem b z)⟩, e.frz⟩
/-- one cell of the def's own is handed back -/
theorem sub_one {m : Nat} {a : Addr} (R : RelS K hid ρ H mg S) (h : n ≤ S.length) (ha : ρ[m]? = some (some a)) : Sub n ρ (ρ.take n ++ [some a]) := by
  have s := sub_take R h
  refine ⟨by rw [List.length_append]; exact Nat.le_trans s.len (Nat.le_add_right _ _), fun k hk => ?_, fun b hb => ?_⟩
  · rw [List.getElem?_append_left (Nat.lt_of_lt_of_le hk s.len)]
    exact s.slot k hk
  · rcases List.mem_append.mp hb with z | z
    · exact s.mem b z
    · have q : some b = some a := by simpa using z
      rw [q]
      exact List.mem_of_getElem? ha
theorem RelS.one {m : Nat} {a : Addr} {c : Cell} (R : RelS K hid ρ H mg S) (h : n ≤ S.length) (hm : n ≤ m) (ha : ρ[m]? = some (some a)) (rc : RepC K hid (ρ.take n ++ [some a]) H mg n a c) :
    RelS K hid (ρ.take n ++ [some a]) H mg (S.take n ++ [c]) := by
  have s := sub_one R h ha
  have T := R.take h
  have hl : (S.take n).length = n := by rw [List.length_take]; omega
  have hl' : (ρ.take n).length = n := by rw [T.len]; exact hl
  have old : ∀ (i : Nat) (b : Addr), (ρ.take n ++ [some a])[i]? = some (some b) → (i < n ∧ ρ[i]? = some (some b)) ∨ (i = n ∧ b = a) := fun i b hi => by
    by_cases hin : i < n
    · rw [s.slot i hin] at hi; exact .inl ⟨hin, hi⟩
    · rw [List.getElem?_append_right (by omega), hl'] at hi
      have : i - n = 0 := by
        have := (List.getElem?_eq_some_iff.mp hi).1
        simp at this; omega
      rw [this] at hi
      simp at hi
      exact .inr ⟨by omega, hi.symm⟩
  refine ⟨by rw [List.length_append, List.length_append, T.len]; rfl, fun i j b h1 h2 => ?_, fun k c' hc => ?_, fun b hb => ?_⟩
  · rcases old i b h1 with ⟨q1, q2⟩ | ⟨q1, q2⟩ <;> rcases old j b h2 with ⟨p1, p2⟩ | ⟨p1, p2⟩
    · exact R.nd i j b q2 p2
    · subst p2; have := R.nd i m b q2 ha; omega
    · subst q2; have := R.nd j m b p2 ha; omega
    · omega
  · by_cases hk : k < n
    · rw [List.getElem?_append_left (by omega)] at hc
      rw [List.getElem?_take_of_lt hk] at hc
      rw [s.slot k hk]
      rcases R.cells k c' hc with q | ⟨b, q, r⟩
      · exact .inl q
      · exact .inr ⟨b, q, r.sub s (Nat.le_of_lt hk)⟩
    · rw [List.getElem?_append_right (by omega), hl] at hc
      have e : k = n := by
        have := (List.getElem?_eq_some_iff.mp hc).1
        simp at this; omega
      subst e
      rw [Nat.sub_self] at hc
      simp at hc
      subst hc
      refine .inr ⟨a, ?_, rc⟩
      rw [List.getElem?_append_right (by omega), hl', Nat.sub_self]
      rfl
  · obtain ⟨h1, h2⟩ := R.hidd b hb
    exact ⟨h1, fun z => h2 (s.mem b z)⟩
/-- behind a body -/
theorem expo_ok {ρ0 : Rho} {H0 : Hp} {d : D} {v : V} {Q : VK} {W : Value → Option Addr → Hp → Prop} (hn : ρ0.length ≤ S.length) (p : Post K mg hid ρ0 H0 (expo ρ0.length d S) (fun ρ' H' d _ => ∀ v, Rep K hid ρ' H' v d → Q v H') W)
    (e : Ext ρ0 H0 ρ H) (R : RelS K hid ρ H mg S) (r : Rep K hid ρ H v d) : Q v H := by
  unfold expo at p
  split at p
  · rename_i hl
    have s := sub_take R hn
    exact p _ _ (e.sub s) (R.take hn) v (Rep.sub s d hl r)
  · rename_i hl
    split at p
    · rename_i m
      have hm : ρ0.length ≤ m := by
        have : ¬ (m < ρ0.length) := fun z => hl (by simpa [D.lt] using z)
        omega
      split at p
      · rename_i ds q
        split at p
        · rename_i l
          obtain ⟨a, ha, _, xs, h1, h2⟩ := R.at_ q (by simp)
          have s := sub_one R hn ha
          have ev := r.ptr_ref ha
          subst ev
          refine p _ _ (e.sub s) (R.one hn hm ha ⟨l, xs, h1, RepL.sub s ds l h2⟩) _ (.ptr ?_ fun b hb => ?_)
          · have := s.len; rw [List.length_append, (R.take hn).len, List.length_take]; simp; omega
          · have hl' : (ρ.take ρ0.length).length = ρ0.length := by rw [(R.take hn).len, List.length_take]; omega
            rw [List.getElem?_append_right (by omega), hl', Nat.sub_self] at hb
            simp at hb
            rw [hb]
        · exact p.elim
      · rename_i ds q
        split at p
        · rename_i l
          have l : ∀ kv ∈ ds, kv.2.lt ρ0.length = true := by simpa using l
          obtain ⟨a, ha, _, xs, h1, h2⟩ := R.at_ q (by simp)
          have s := sub_one R hn ha
          have ev := r.ptr_ref ha
          subst ev
          refine p _ _ (e.sub s) (R.one hn hm ha ⟨l, xs, h1, RepKV.sub s l h2⟩) _ (.ptr ?_ fun b hb => ?_)
          · have := s.len; rw [List.length_append, (R.take hn).len, List.length_take]; simp; omega
          · have hl' : (ρ.take ρ0.length).length = ρ0.length := by rw [(R.take hn).len, List.length_take]; omega
            rw [List.getElem?_append_right (by omega), hl', Nat.sub_self] at hb
            simp at hb
            rw [hb]
        · exact p.elim
      · rename_i ds q
        split at p
        · rename_i l
          have l : ∀ kv ∈ ds, kv.2.lt ρ0.length = true := by simpa using l
          obtain ⟨a, ha, _, xs, h1, h2⟩ := R.at_ q (by simp)
          have s := sub_one R hn ha
          have ev := r.ptr_ref ha
          subst ev
          refine p _ _ (e.sub s) (R.one hn hm ha ⟨l, xs, h1, RepKV.sub s l h2⟩) _ (.ptr ?_ fun b hb => ?_)
          · have := s.len; rw [List.length_append, (R.take hn).len, List.length_take]; simp; omega
          · have hl' : (ρ.take ρ0.length).length = ρ0.length := by rw [(R.take hn).len, List.length_take]; omega
            rw [List.getElem?_append_right (by omega), hl', Nat.sub_self] at hb
            simp at hb
            rw [hb]
        · exact p.elim
      · exact p.elim
    · exact p.elim
theorem startE {N : List Str} {vs : List V} {ds : List D} (h : RepL K hid ρ H vs ds) (k : ds.length ≤ N.length) : RelE K hid ρ H (L2.start N vs) (ds.map some ++ List.replicate (N.length - ds.length) none) := by
  have hl := h.length
  refine ⟨?_, fun i d hi => ?_⟩
  · unfold L2.start
    simp only [List.length_append, List.length_map, List.length_replicate, hl]
  · by_cases hd : i < ds.length
    · rw [List.getElem?_append_left (by simpa using hd), List.getElem?_map] at hi
      have e : ds[i]? = some d := by
        cases q : ds[i]? with
        | none => rw [q] at hi; cases hi
        | some x => rw [q] at hi; cases hi; rfl
      obtain ⟨v, h1, h2⟩ := h.get e
      refine ⟨v, ?_, h2⟩
      unfold L2.start
      rw [List.getElem?_append_left (by rw [List.length_map, hl]; exact hd), List.getElem?_map, h1]
      rfl
    · rw [List.getElem?_append_right (by simpa using hd), List.getElem?_replicate] at hi
      split at hi <;> cases hi
end
section
variable {P : Program} {w : World} {K : PySem.W.Frag} {mg : Str → Option Value} {base : Heap}
open PyProof.Rows in
theorem fn_ok {x qual : Str} {st : PySem.Stmt} {f : Addr} {fd : FuncData} {N ps : List Str} {lv : Nat} {b : CSs} {kws : List (Str × V)} {dvs : List V} (F : FunD K x qual (defArgs st) (defBody st) (defScope st) dvs kws f fd) (S : FnScope N ps (defScope st))
    (hbody : ∀ (cdv : Value) (A : Around) (outer : List Env) (s : Shared) (H : Hp) (E : XK), Room lv (A.deeper (envOfC qual (defScope st) s.heap.objs.size f cdv)) →
      PSs (cxOf (L2.CX P w) P w K mg base N qual (defScope st) f cdv A outer s H E) (defBody st) (tS (cxOf (L2.CX P w) P w K mg base N qual (defScope st) f cdv A outer s H E) (fun cls d _ H => E cls d H) (exs b))) :
    FnOk P w K mg base (L2.CX P w) (lv + 1) f fd ps (spOf K mg (fnOf ps.length N.length b)) := by
  have hlen : ∀ vs H Q E, spOf K mg (fnOf ps.length N.length b) vs H Q E → vs.length = ps.length := fun vs H Q E ⟨hid, ρ, S0, ds, r, rl, p⟩ => by
    unfold fnOf at p
    split at p
    · rename_i h; rw [rl.length, h]
    · exact p.elim
  have hN : ps.length ≤ N.length := by have := congrArg List.length S.pre; rw [List.length_take] at this; omega
  refine F.ok S hlen fun cdv A outer s H vs Q E hr hsp => ⟨_, hbody cdv A outer s H E hr, ?_⟩
  obtain ⟨hid, ρ, S0, ds, r, rl, p⟩ := hsp
  refine ⟨hid, ρ, ds.map some ++ List.replicate (N.length - ps.length) none, S0, r, ?_, ?_⟩
  · unfold fnOf at p
    split at p
    · rename_i h
      rw [← h]
      exact startE rl (by omega)
    · exact p.elim
  · unfold fnOf at p
    split at p
    · rename_i h
      rw [← r.len] at p
      split at p
      · rename_i env' S' q
        rw [q]
        exact fun ρ' H' σ' e' r' re' => expo_ok (v := .non) (by rw [← r'.len]; exact e'.len) p e' r' .non
      · rename_i d S' q
        rw [q]
        exact fun ρ' H' v e' r' rv => expo_ok (by rw [← r'.len]; exact e'.len) p e' r' rv
      · rename_i c fs env' S' q
        rw [q]
        intro ρ' H' cls d σ' e' r' re' x
        split at p
        · rename_i hl
          have hl : ∀ kv ∈ fs, kv.2.lt ρ.length = true := by simpa using hl
          have hn : ρ.length ≤ S'.length := by rw [← r'.len]; exact e'.len
          have s := sub_take r' hn
          refine p _ _ cls d (e'.sub s) (r'.take hn) ?_
          obtain ⟨C, h1, h2, h3⟩ := x
          refine ⟨C, h1, h2, ?_⟩
          rcases h3 with h3 | ⟨dd, gs, q1, q2, q3⟩
          · exact .inl h3
          · exact .inr ⟨dd, gs, q1, q2, RepKV.sub s hl q3⟩
        · exact p.elim
      · exact p.elim
    · exact p.elim
end
end MI
namespace MI
open PySem PySem.Spec L2 PyProof.Rows
theorem and2 {a b : Bool} (h : (a && b) = true) : a = true ∧ b = true := by simpa using h
/-! ### sorted -/
section
variable {X : Cx} {W : WX}
theorem pyL_map : ∀ ds : List D, pyL ds = ds.map D.py
  | [] => rfl
  | d :: ds => by rw [pyL, pyL_map ds]; rfl
def rSortD (X : Cx) : List V → Hp → VK → Prop := fun vs H Q => ∃ (a : Addr) (xs : List V) (ds : List D) (hid : List Addr) (ρ : Rho), vs = [V.ref a] ∧ SqL X.K H a xs ∧ RepL X.K hid ρ H xs ds ∧ fitL ds 50 = true ∧ alikeAllD ds = true ∧ sortableD ds = true ∧
  ∀ (zs : List V) (p : Addr), RepL X.K hid ρ H zs (ds.mergeSort leD) → H p = none → Q (.ref p) (upd H p (.lst zs))
theorem each_of {K : PySem.W.Frag} {hid : List Addr} {ρ : Rho} {H : Hp} : ∀ {xs : List V} {us : List Value} {ds : List D}, Vals xs us → RepL K hid ρ H xs ds → PySem.W.EachIs (fun (u : Value) (d : D) => ∃ x, RelV x u ∧ Rep K hid ρ H x d) us ds
  | _, _, _, .nil, .nil => .nil
  | _, _, _, .cons r rs, .cons h hs => .cons ⟨_, r, h⟩ (each_of rs hs)
theorem of_each {K : PySem.W.Frag} {hid : List Addr} {ρ : Rho} {H : Hp} : ∀ {us : List Value} {ds : List D}, PySem.W.EachIs (fun (u : Value) (d : D) => ∃ x, RelV x u ∧ Rep K hid ρ H x d) us ds → ∃ xs, Vals xs us ∧ RepL K hid ρ H xs ds
  | _, _, .nil => ⟨[], .nil, .nil⟩
  | _, _, .cons ⟨x, r, h⟩ hs => by
    obtain ⟨xs, r2, h2⟩ := of_each hs
    exact ⟨x :: xs, .cons r r2, .cons h h2⟩
theorem each_reads {pins : List (Addr × Obj)} {σ : L2.St} {H : Hp} {s : Shared} {hid : List Addr} {ρ : Rho} (I : Inv X pins σ H s) : ∀ {xs : List V} {us : List Value} {ds : List D}, Vals xs us → RepL X.K hid ρ H xs ds → fitL ds 50 = true →
    PySem.W.EachIs (fun (u : Value) (d : D) => ∃ as, Reads s.heap u d.py as) us ds
  | _, _, _, .nil, .nil, _ => .nil
  | _, _, _, .cons r rs, .cons (d := d) (ds := ds) h hs, f => by
    have f' : d.fit 50 = true ∧ fitL ds 50 = true := by simpa [fitL] using f
    exact .cons (Dp.reads I _ _ _ (Rep.dp _ 50 h f'.1) r) (each_reads I rs hs f'.2)
theorem fitL_mem {n : Nat} : ∀ {ds : List D} {d : D}, fitL ds n = true → d ∈ ds → d.fit n = true
  | e :: ds, d, f, h => by
    have f' : e.fit n = true ∧ fitL ds n = true := by simpa [fitL] using f
    rcases List.mem_cons.mp h with q | q
    · rw [q]; exact f'.1
    · exact fitL_mem f'.2 q
theorem cr_sortedD (hu : X.A.units + 65 < cLine) : CallR X (.builtin "sorted") (rSortD X) := by
  intro pins s σ H vs us Q I r h
  obtain ⟨a, xs, ds, hid, ρ, rfl, hs, rl, hf, hal, hsb, q⟩ := h
  obtain ⟨its, rv, hl, hz⟩ := I.list hs
  rw [Vals.ref1 r]
  have lds : its.length = ds.length := by rw [← rv.length, rl.length]
  refine PySem.W.sorted_data (enc := D.py) hl.isList (each_of rv rl) (each_reads I rv rl hf) ?al ?so (by rw [← lds, ← rv.length]; exact hz) (fun d hd => ?dep) fun out ho eo => ?fin
  case al =>
    intro x hx y hy
    obtain ⟨d, hd, rfl⟩ := List.mem_map.mp hx
    obtain ⟨e, he, rfl⟩ := List.mem_map.mp hy
    have h1 := List.all_eq_true.mp hal d hd
    exact List.all_eq_true.mp h1 e he
  case so =>
    rcases Bool.or_eq_true_iff.mp hsb with h | h
    · refine .inl fun x hx => ?_
      obtain ⟨d, hd, rfl⟩ := List.mem_map.mp hx
      have h1 := List.all_eq_true.mp h d hd
      cases d with
      | tup l => cases l with
        | nil => simp at h1
        | cons e l => exact ⟨_, _, rfl⟩
      | _ => simp at h1
    · refine .inr fun x hx => ?_
      obtain ⟨d, hd, rfl⟩ := List.mem_map.mp hx
      have h1 := List.all_eq_true.mp h d hd
      have h2 := fitL_mem hf hd
      cases d with
      | non => simp at h1
      | tup l => simp at h1
      | con l => simp [D.fit] at h2
      | ptr l => simp [D.fit] at h2
      | _ => exact ⟨by simp [D.py], fun xs => by simp [D.py]⟩
  case dep =>
    have := (fit_shape d 50 (fitL_mem hf hd)).2
    omega
  case fin =>
    obtain ⟨zs, rz, lz⟩ := of_each eo
    obtain ⟨ep, he'⟩ := PyProof.Rows.sortedAll_at s.heap its out.toArray
    have hlen : zs.length ≤ sizeLine := by rw [rz.length, ho, ← lds, ← rv.length]; exact hz
    exact ⟨.ref _, upd H (s.heap.objs.size + 1) (.lst zs), I.laid (t' := s.toks) (fun _ _ => PyProof.Rows.sortedAll_old) (Nat.le_succ _) ⟨hlen, out, ep, rz, he'⟩, rfl, q _ _ lz (I.hok.fresh (Nat.le_succ _))⟩
theorem s_sorted {a : CE} {ea : PySem.Expr} {p pos : Pos} (hu : X.A.units + 65 < cLine) (hg : Gl X "sorted") (hm : X.mg "sorted" = none) (ha : PE X ea (tE X W a)) (hs : isStar ea = false) :
    PE X (.Call (.Name "sorted" p) [ea] [] pos) (tL X W (.sorted a)) := by
  refine PE.imp (pe_callB (cr_sortedD hu) hg hm (by decide +kernel) (pa_cons ha pa_nil (star_cons hs [] X.env)) (by decide) (by decide) (star_cons hs [] X.env) (back_none pos (star_none X.env rfl))) fun σ H Q h => ?_
  have h' : Go X W σ H (fun env S => (ev a env S).bind fun x S => (match x with
    | .tup _ => .stuck
    | .con _ => .stuck
    | x => (match seqOf x S with
      | some ds => if fitL ds 50 && alikeAllD ds && sortableD ds then .ok (ds.mergeSort leD) S else .stuck
      | none => .stuck))) (fun hid ρ H' ds _ => ∀ xs p, RepL X.K hid ρ H' xs ds → H' p = none → Q (.ref p) (upd H' p (.lst xs))) := h
  refine h'.bind fun hid ρ1 H1 x S1 env r1 e1 p1 v rv => ?_
  have key : (∀ es, x ≠ .tup es) ∧ (∀ es, x ≠ .con es) ∧ Post X.K X.mg hid ρ1 H1 (match seqOf x S1 with
      | some ds => if fitL ds 50 && alikeAllD ds && sortableD ds then .ok (ds.mergeSort leD) S1 else .stuck
      | none => .stuck) (fun ρ H' ds _ => ∀ xs p, RepL X.K hid ρ H' xs ds → H' p = none → Q (.ref p) (upd H' p (.lst xs))) (fun cls d H' => W cls d σ H') := by
    cases x with
    | tup es => exact p1.elim
    | con es => exact p1.elim
    | _ => exact ⟨(fun es z => by cases z), (fun es z => by cases z), p1⟩
  obtain ⟨nt, nc, p2⟩ := key
  split at p2
  · rename_i ds q
    split at p2
    · rename_i hc
      obtain ⟨ad, xs, rfl, hs, rl⟩ := lst_rep r1 rv q nt nc
      obtain ⟨hc1, hc3⟩ := and2 hc
      obtain ⟨hc1, hc2⟩ := and2 hc1
      exact ⟨ad, xs, ds, hid, ρ1, rfl, hs, rl, hc1, hc2, hc3, fun zs p lz hp => p2 _ _ Ext.refl r1 zs p lz hp⟩
    · exact p2.elim
  · exact p2.elim
/-! ### list -/
theorem s_list {a : CE} {ea : PySem.Expr} {p pos : Pos} (hg : Gl X "list") (hm : X.mg "list" = none) (ha : PE X ea (tE X W a)) (hs : isStar ea = false) :
    PE X (.Call (.Name "list" p) [ea] [] pos) (tL X W (.list a)) := by
  refine PE.imp (pe_callTy call_list_of hg hm (by decide +kernel) (pa_cons ha pa_nil (star_cons hs [] X.env)) (by decide) (by decide) (star_cons hs [] X.env) (back_none pos (star_none X.env rfl))) fun σ H Q h => ?_
  have h' : Go X W σ H (fun env S => (ev a env S).bind fun x S => Rs.of (seqOf x S) S) (fun hid ρ H' ds _ => ∀ xs p, RepL X.K hid ρ H' xs ds → H' p = none → Q (.ref p) (upd H' p (.lst xs))) := h
  refine h'.bind fun hid ρ1 H1 x S1 env r1 e1 p1 v rv => ?_
  obtain ⟨ds, q, k⟩ := p1.of
  obtain ⟨ad, xs, rfl, hs, rl⟩ := seq_rep r1 rv q
  exact ⟨ad, xs, rfl, hs, fun l hl => k ρ1 H1 Ext.refl r1 xs l rl hl⟩
/-! ### list(d.keys()) -/
def tLK (td : TE) : TE := fun σ H Q => td σ H fun x H1 => ∃ d, x = .ref d ∧ ((∃ kvs, Rd H1 d (.dK kvs) ∧ ∀ p, H1 p = none → Q (.ref p) (upd H1 p (.lst (kvs.map fun kv => kV kv.1)))) ∨
  ∃ kvs, Rd H1 d (.dT kvs) ∧ ∀ p bs, H1 p = none → IsKeys H1 kvs bs → Q (.ref p) (upd H1 p (.lst (bs.map V.ref))))
theorem pe_listKeys {td : TE} {eo : PySem.Expr} {p pos apos cpos : Pos} (hc : X.calm = true) (hg : Gl X "list") (hm : X.mg "list" = none) (ho : PE X eo td) (hbase : attributeBase eo "keys" X.env (eval eo X.env) = eval eo X.env) (hline : (apos.endLine == cpos.line) = true) :
    PE X (.Call (.Name "list" p) [.Call (.Attribute eo "keys" apos) [] [] cpos] [] pos) (tLK td) := by
  refine ⟨fun pins s σ H Q I h => ?_⟩
  refine wpAny_Call_Name_kw (ld_blt I hg hm (show bootBuiltins ("list" : Str) = some (.type "list") by decide +kernel) ?_ (by decide) (by decide))
  refine PyProof.Rows.callWith_type1 ?_ (star_cons rfl [] X.env) (back_none pos (star_none X.env rfl))
  rw [star_cons rfl [] X.env]
  show wpAny _ _ (spliced ((false, eval _ X.env) :: backTo pos (starEach [] X.env))) _ _ s
  refine PySem.Calls.spliced_cons ?_
  refine wpAny_Call_method (T := "dict") (id := "dict.keys") hbase rfl hline F.plainAttrs_dict F.slot_dict_keys F.type_dict_keys (thn (ho.run pins s σ H _ I h) fun u s1 ⟨x, H1, I1, rx, d, ex, q⟩ => ?_)
  subst ex
  obtain rfl : u = Value.ref d := rx
  have I2 : Inv X pins σ H1 { s1 with heap := s1.heap.push { cls := .type "dict_keys", data := .fields #[.ref d] } } := I1.kept (t' := s1.toks) fun b ob q => Heap.get?_push_of_some _ q
  rcases q with ⟨kvs, hd, q⟩ | ⟨kvs, hd, q⟩
  · obtain ⟨z, lo, vs, rel, dd⟩ := dk_rd I1.hok hd
    obtain ⟨ep, hat⟩ := dd.dictAt
    refine ⟨dd.typeIs, dd.mapOf.noDict, ?_⟩
    have ek : (kvs.map fun kv => kV kv.1) = vs.map fun p => kV p.1 := by
      have e := congrArg (List.map kV) rel.keys
      rw [List.map_map, List.map_map] at e
      exact e
    show wpAny _ _ (callWith cpos (.builtin "dict.keys") [.ref d] [] []) _ X.xe s1
    refine method_meetsIn F.slot_dict_keys F.entry_dict_keys rfl (PySem.evalArgs_none ⟨rfl, dd.typeIs, F.args_dict_keys_1 _, _, PySem.W.kdl_meets_keys (mixKind X.prog X.w) d lo, ⟨vs, dd⟩, ?_⟩)
    refine PySem.Calls.spliced_nil ?_
    refine PySem.W.kdl_call (PySem.W.kdl_keys (knd := mixKind X.prog X.w) (kvs := vs) (ep := ep) (d := d)) (I1.ok.hd hc) ⟨⟨_, Heap.get?_push_size _ rfl, rfl, rfl⟩, hat.push _⟩ (by rw [← rel.length]; exact z) fun h' tk acc c' hk hD hacc => ?_
    have hv : Vals (vs.map fun p => kV p.1) acc.toList := keys_at (by rw [Array.length_toList]; exact hacc.1) fun j v e => hacc.2 j v (by rw [← Array.getElem?_toList]; exact e)
    refine ⟨.ref _, upd H1 _ (.lst (kvs.map fun kv => kV kv.1)), I2.laid (t' := tk) hk (Nat.le_refl _)
      (show ObjOk X.prog X.w _ _ _ (.lst (kvs.map fun kv => kV kv.1)) from ⟨by rw [List.length_map]; exact z, acc.toList, c', by rw [ek]; exact hv, by rw [Array.toArray_toList]; exact hD⟩), rfl, q _ (I2.hok.fresh (Nat.le_refl _))⟩
  · obtain ⟨z, hs, ks, pr, o, es, ep, ho', hx, hdt, he, hn⟩ := (show ObjOk X.prog X.w H1 s1.heap d (.dT kvs) from hd.ok I1.hok)
    obtain ⟨t1, t2, _⟩ := isD_at I1 (.inr ⟨kvs, hd⟩)
    have l1 : es.size = ks.length := size_of_entries he
    have l2 : kvs.length = ks.length := Paired.length pr
    refine ⟨t1, t2, ?_⟩
    show wpAny _ _ (callWith cpos (.builtin "dict.keys") [.ref d] [] []) _ X.xe s1
    refine method_meetsIn F.slot_dict_keys F.entry_dict_keys rfl (PySem.evalArgs_none ⟨rfl, t1, F.args_dict_keys_1 _, _, PySem.meets_dict_keys_raw d hs, ⟨⟨es, ep, ⟨o, ho', hx, hdt⟩⟩, ?_⟩⟩)
    refine PySem.Calls.spliced_nil ?_
    refine PySem.W.kdl_call (PySem.KdlSrc.rawKeys (d := d) (es := es) (ep := ep)) (I1.ok.hd hc) ⟨⟨_, Heap.get?_push_size _ rfl, rfl, rfl⟩, ⟨o, Heap.get?_push_of_some _ ho', hx, hdt⟩⟩ (by omega) fun h' tk acc' c' kp e it => ?_
    have ea : acc'.toList = ks.map fun x => Value.ref x.2.1 := by
      have hl : acc'.toList.length = ks.length := by rw [Array.length_toList, it.1]; exact l1
      apply List.ext_getElem?
      intro j
      rw [List.getElem?_map]
      cases hj : acc'.toList[j]? with
      | none =>
        have h1 := List.getElem?_eq_none_iff.mp hj
        rw [List.getElem?_eq_none (by omega)]
        all_goals rfl
      | some v =>
        obtain ⟨hi, hv⟩ := it.2 j v (by rw [← Array.getElem?_toList]; exact hj)
        have qe := entry_at he j
        rw [Array.getElem?_eq_getElem hi] at qe
        cases hb : ks[j]? with
        | none =>
          rw [hb] at qe
          exact nomatch (show some _ = none from qe)
        | some b =>
          rw [hb] at qe
          have e2 : es[j] = entryOfKey (tupleKind (mixKind X.prog X.w)) b := Option.some.inj qe
          rw [hv, e2]
          all_goals rfl
    have eb : acc'.toList = (ks.map fun x => x.2.1).map Value.ref := by rw [ea, List.map_map]; all_goals rfl
    have rv : Vals ((ks.map fun x => x.2.1).map V.ref) acc'.toList := by rw [eb]; exact vals_refs _
    have hz : ((ks.map fun x => x.2.1).map V.ref).length ≤ sizeLine := by rw [List.length_map, List.length_map]; omega
    refine ⟨.ref _, _, I2.laid (t' := tk) (o := .lst ((ks.map fun x => x.2.1).map V.ref)) kp (Nat.le_refl _) ?_, rfl, q _ _ (I2.hok.fresh (Nat.le_refl _)) (isKeys_of pr)⟩
    exact ⟨hz, acc'.toList, c', rv, by rw [Array.toArray_toList]; exact e⟩
end
section
variable {K : PySem.W.Frag} {mg : Str → Option Value} {hid : List Addr} {ρ : Rho} {H : Hp} {S : Store}
theorem RelS.tup_free {b : Addr} {xs : List V} (R : RelS K hid ρ H mg S) (h : H b = some (.tup xs)) : some b ∉ ρ ∧ b ∉ hid := by
  refine ⟨fun z => ?_, fun z => ?_⟩
  · obtain ⟨n, hn, e⟩ := List.getElem_of_mem z
    have e' : ρ[n]? = some (some b) := by rw [List.getElem?_eq_getElem hn, e]
    have hs : n < S.length := by rw [← R.len]; exact hn
    rcases R.cells n _ (List.getElem?_eq_getElem hs) with ⟨_, q⟩ | ⟨c, q, rc⟩
    · rw [e'] at q; cases q
    · rw [e'] at q; cases q
      generalize S[n] = cc at rc
      cases cc with
      | dead => cases rc
      | lst ds => obtain ⟨l, xs, e, r⟩ := rc; rw [h] at e; cases e
      | lkl ds => obtain ⟨l, xs, o, e, r⟩ := rc; rw [h] at e; cases e
      | dK ds => obtain ⟨l, xs, e, r⟩ := rc; rw [h] at e; cases e
      | dT ds => obtain ⟨l, xs, e, r⟩ := rc; rw [h] at e; cases e
      | lkd ds => obtain ⟨l, xs, o, e, r⟩ := rc; rw [h] at e; cases e
      | ins c fs => obtain ⟨l, C, dx, gs, e, m, r⟩ := rc; rw [h] at e; cases e
  · obtain ⟨⟨⟨o, ho⟩, e⟩, _⟩ := R.hidd b z
    rw [h] at e
    cases e
    cases ho
theorem rep_kD (k : Key) : Rep K hid ρ H (kV k) (kD k) := by
  cases k with
  | inl i => exact .int i
  | inr s => exact .str s
theorem repL_kD : ∀ ks : List Key, RepL K hid ρ H (ks.map kV) (ks.map kD)
  | [] => .nil
  | k :: ks => .cons (rep_kD k) (repL_kD ks)
theorem keysK_rep {ks : List (Key × V)} {kvs : List (Key × D)} (h : RepKV K hid ρ H ks kvs) : RepL K hid ρ H (ks.map fun kv => kV kv.1) (kvs.map fun kv => kD kv.1) := by
  unfold RepKV at h
  induction h with
  | nil => exact .nil
  | cons q t ih => rename_i p q' _ _; obtain ⟨e, _⟩ := q; rw [List.map_cons, List.map_cons, e]; exact .cons (rep_kD _) ih
theorem keysT_rep (R : RelS K hid ρ H mg S) {ks : List (List Key × V)} {kvs : List (List Key × D)} (h : RepKV K hid ρ H ks kvs) : ∀ {bs : List Addr}, IsKeys H ks bs → RepL K hid ρ H (bs.map V.ref) (kvs.map fun kv => .tup (kv.1.map kD)) := by
  unfold RepKV at h
  induction h with
  | nil => intro bs hb; cases hb; exact .nil
  | cons q t ih =>
    intro bs hb
    obtain ⟨e, _⟩ := q
    cases hb with
    | cons hb ht =>
      rw [List.map_cons, List.map_cons, ← e]
      obtain ⟨f1, f2⟩ := R.tup_free hb
      exact .cons (.tup hb f1 f2 (repL_kD _)) (ih ht)
end
section
variable {X : Cx} {W : WX} {σ : L2.St} {H : Hp} {c a b : CE} {cs : CEs} {e ea eb ec eo ei ep ej : PySem.Expr} {p pos : Pos}
theorem s_keys {apos cpos : Pos} (hc : X.calm = true) (hg : Gl X "list") (hm : X.mg "list" = none) (ho : PE X eo (tE X W a)) (hb : isCall eo = false) (hl : (apos.endLine == cpos.line) = true) :
    PE X (.Call (.Name "list" p) [.Call (.Attribute eo "keys" apos) [] [] cpos] [] pos) (tL X W (.keys a)) := by
  refine PE.imp (pe_listKeys hc hg hm ho (base_no hb) hl) fun σ H Q h => ?_
  have h' : Go X W σ H (fun env S => (ev a env S).bind fun x S => (match x with
    | .ptr n => (match S[n]? with
      | some (.dK kvs) => .ok (kvs.map fun kv => kD kv.1) S
      | some (.dT kvs) => .ok (kvs.map fun kv => .tup (kv.1.map kD)) S
      | _ => .stuck)
    | _ => .stuck)) (fun hid ρ H' ds _ => ∀ xs p, RepL X.K hid ρ H' xs ds → H' p = none → Q (.ref p) (upd H' p (.lst xs))) := h
  refine h'.bind fun hid ρ1 H1 x S1 env r1 e1 p1 v rv => ?_
  split at p1
  · rename_i n
    split at p1
    · rename_i kvs q
      obtain ⟨ad, ha, _, ks, h1, h2⟩ := r1.at_ q (by simp)
      exact ⟨ad, rv.ptr_ref ha, .inl ⟨ks, .inl h1, fun p hp => p1.here r1 _ p (keysK_rep h2) hp⟩⟩
    · rename_i kvs q
      obtain ⟨ad, ha, _, ks, h1, h2⟩ := r1.at_ q (by simp)
      exact ⟨ad, rv.ptr_ref ha, .inr ⟨ks, .inl h1, fun p bs hp hb => p1.here r1 _ p (keysT_rep r1 h2 hb) hp⟩⟩
    · exact p1.elim
  · exact p1.elim
/-! ### sorted by a def's answers -/
theorem heap_off (h : Heap) (k : Addr) : ∃ G : Heap, (∀ b, b ≠ k → G.get? b = h.get? b) ∧ G.get? k = none := by
  obtain ⟨G, h1, h2⟩ := L2.restrict h fun b => decide (b ≠ k)
  exact ⟨G, fun b hb => h1 b (decide_eq_true hb), h2 k (by simp)⟩
/-- what a key's call hands back -/
def KQ (K : PySem.W.Frag) (mg : Str → Option Value) (hid : List Addr) (ρ : Rho) (H : Hp) (S : Store) (d : D) : V → Hp → Prop := fun v H' => ∃ ρ', Ext ρ H ρ' H' ∧ RelS K hid ρ' H' mg S ∧ Rep K hid ρ' H' v d
theorem key_call {pins : List (Addr × Obj)} {s : Shared} {H : Hp} {k : Nat} {f : Addr} {fd : FuncData} {ps : List Str} {g : Fn} {A : Around} {x : V} {u : Value} {d kd : D} {hid : List Addr} {ρ : Rho} {S S' : Store} (F : FnOk X.prog X.w X.K X.mg X.base (L2.CX X.prog X.w) k f fd ps (spOf X.K X.mg g)) (hb : Binds X.K fd ps [])
    (hr : Room k A) (I : L2.Inv X pins σ H s) (e0 : Env0 X.prog X.w X.K X.mg X.base A X.stack s H) (R : RelS X.K hid ρ H X.mg S) (rx : Rep X.K hid ρ H x d) (ru : RelV x u) (e : g [d] S = .ok kd S') :
    wpAny (model X.prog X.w) A (call (.ref f) [u]) (EP X pins σ (KQ X.K X.mg hid ρ H S' kd)) (fun _ _ => False) s := by
  have sp : spOf X.K X.mg g [x] H (KQ X.K X.mg hid ρ H S' kd) (fun _ _ _ => False) := by
    refine ⟨hid, ρ, S, [d], R, .cons rx .nil, ?_⟩
    rw [e]
    exact fun ρ' H' e' r' v rv => ⟨ρ', e', r', rv⟩
  have hl : ([u] : List Value).length = ps.length := F.len _ _ _ _ sp
  have b := hb s [u] I.kIn (by rw [List.append_nil]; exact hl)
  rw [List.append_nil] at b
  refine wpAny_call (codeAny_mono (F.run A X.stack s H ⟨[u], []⟩ [u] [x] _ _ hr e0 b (.cons ru .nil) sp) fun r s' hq => ?_)
  cases r with
  | error e =>
    obtain ⟨_, _, _, _, _, _, _, _, _, _, _, _, z⟩ := hq
    exact z
  | ok fl =>
    cases fl with
    | ret u => exact I.after hq
    | next => exact False.elim hq
    | brk => exact False.elim hq
    | cont => exact False.elim hq
theorem each_py {K : PySem.W.Frag} {hid : List Addr} {ρ : Rho} {H : Hp} {R : Value → PyData → Prop} : ∀ {us : List Value} {ks : List D}, PySem.W.EachIs (fun u (d : D) => R u d.py) us ks → PySem.W.EachIs R us (ks.map D.py)
  | _, _, .nil => .nil
  | _, _, .cons h t => .cons h (each_py (K := K) (hid := hid) (ρ := ρ) (H := H) t)
theorem mapK_len {g : Fn} : ∀ {ds ks : List D} {S S' : Store}, mapK g ds S = some (ks, S') → ks.length = ds.length
  | [], _, _, _, h => by cases h; rfl
  | d :: ds, ks, S, S', h => by
    have h' : (match g [d] S with
      | .ok k S' => (match mapK g ds S' with | some (ks, S2) => some (k :: ks, S2) | none => none)
      | _ => none) = some (ks, S') := h
    split at h'
    · split at h'
      · rename_i q
        cases h'
        rw [List.length_cons, List.length_cons, mapK_len q]
      · cases h'
    · cases h'
theorem mapK_cons {g : Fn} {d : D} {ds ks : List D} {S S' : Store} (h : mapK g (d :: ds) S = some (ks, S')) : ∃ k ks' S1, g [d] S = .ok k S1 ∧ mapK g ds S1 = some (ks', S') ∧ ks = k :: ks' := by
  have h' : (match g [d] S with
      | .ok k S' => (match mapK g ds S' with | some (ks, S2) => some (k :: ks, S2) | none => none)
      | _ => none) = some (ks, S') := h
  split at h'
  · rename_i k S1 q1
    split at h'
    · rename_i ks' S2 q
      cases h'
      exact ⟨k, ks', S1, q1, q, rfl⟩
    · cases h'
  · cases h'
def rSortK (X : Cx) (g : Fn) (f : Addr) : List V → List V → Hp → VK → Prop := fun vs zs H Q => ∃ (a : Addr) (xs : List V) (ds : List D) (hid : List Addr) (ρ : Rho) (S S1 : Store) (ks : List D), vs = [V.ref a] ∧ zs = [V.ref f] ∧ SqL X.K H a xs ∧ RelS X.K hid ρ H X.mg S ∧ RepL X.K hid ρ H xs ds ∧ mapK g ds S = some (ks, S1) ∧
  fitL ks 50 = true ∧ alikeAllD ks = true ∧ sortableD ks = true ∧
  ∀ (ρ' : Rho) (H' : Hp) (zs : List V) (p : Addr), Ext ρ H ρ' H' → RelS X.K hid ρ' H' X.mg S1 → RepL X.K hid ρ' H' zs (((ks.zip ds).mergeSort fun a b => leD a.1 b.1).map (·.2)) → H' p = none → Q (.ref p) (upd H' p (.lst zs))
theorem upd_twice {H : Hp} {a : Addr} {o u : HO} : upd (upd H a o) a u = upd H a u := by
  funext c
  unfold upd
  by_cases h : c = a
  · rw [if_pos h, if_pos h]
  · rw [if_neg h, if_neg h, if_neg h]
theorem upd_without {H : Hp} {a : Addr} {u : HO} : upd (without H a) a u = upd H a u := by
  funext c
  unfold upd without
  by_cases h : c = a
  · rw [if_pos h, if_pos h]
  · rw [if_neg h, if_neg h, if_neg h]
theorem each_zip {R : Value → D → Prop} : ∀ {us : List Value} {ds ks : List D}, PySem.W.EachIs R us ds → ks.length = ds.length → PySem.W.EachIs (fun u (p : D × D) => R u p.2) us (ks.zip ds)
  | _, _, ks, .nil, h => by
    cases ks with
    | nil => exact .nil
    | cons _ _ => simp at h
  | _, _, ks, .cons r t, h => by
    cases ks with
    | nil => simp at h
    | cons k ks => exact .cons r (each_zip t (by simpa using h))
theorem each_snd {R : Value → D → Prop} : ∀ {us : List Value} {ps : List (D × D)}, PySem.W.EachIs (fun u (p : D × D) => R u p.2) us ps → PySem.W.EachIs R us (ps.map (·.2))
  | _, _, .nil => .nil
  | _, _, .cons r t => .cons r (each_snd t)
theorem ext_off {ρ ρ' : Rho} {H H' : Hp} {a : Addr} (h : H a = none) (x : Ext ρ H ρ' H') : Ext ρ H ρ' (without H' a) :=
  ⟨x.len, x.slot, fun b u h1 h2 => by
    obtain ⟨q1, q2⟩ := x.keep b u h1 h2
    exact ⟨by rw [without_ne (ne_of_none h1 h)]; exact q1, q2⟩, fun b q u h1 => by
    rw [without_ne (ne_of_none h1 h)]; exact x.frz b q u h1⟩
theorem cr_sortedKeyD {k : Nat} {f : Addr} {fd : FuncData} {ps : List Str} {g : Fn} (hu : X.A.units + 65 < cLine) (F : FnOk X.prog X.w X.K X.mg X.base (L2.CX X.prog X.w) k f fd ps (spOf X.K X.mg g)) (hb : Binds X.K fd ps []) (hr : Room (k + 2) X.A) :
    CallRK X (.builtin "sorted") [Str.ofString "key"] (rSortK X g f) := by
  intro pins s σ H vs zs us ws Q I r rz h
  obtain ⟨a, xs, ds, hid, ρ, S, S1, ks, rfl, rfl, hs, R, rl, hm, hf, hal, hsb, q⟩ := h
  rw [Vals.ref1 r, Vals.ref1 rz]
  have hrr : Room k X.A.in1.in1 := Room.in1 (Room.in1 hr)
  obtain ⟨its, rv, hl, hz⟩ := I.list hs
  have lds : its.length = ds.length := by rw [← rv.length, rl.length]
  have hzl : its.length ≤ sizeLine := by rw [← rv.length]; exact hz
  have klen := mapK_len hm
  show wpAny _ _ (call (.builtin "sorted") [.ref a] [(Str.ofString "key", .ref f)]) _ _ s
  refine PySem.W.sorted_of_sort hl.isList hzl (PyProof.Rows.ksk_s1 _ _) (fun _ => PyProof.Rows.ksk_l1 _ _) fun E' => ?_
  rw [PyProof.Rows.ksk_t1]
  have oa := PySem.W.copyHeap_at s.heap its
  have old : ∀ b o, s.heap.get? b = some o → (PySem.W.copyHeap s.heap its).get? b = some o := fun b o z => PySem.W.copyHeap_old z
  generalize hcp : PySem.W.copyHeap s.heap its = hC at oa old ⊢
  have a0ge : s.heap.objs.size ≤ s.heap.objs.size + 1 := Nat.le_succ _
  have a0lt := Heap.lt_size oa
  have a0ne : ∀ b o, s.heap.get? b = some o → b ≠ s.heap.objs.size + 1 := fun b o z => Nat.ne_of_lt (Nat.lt_succ_of_lt (Heap.lt_size z))
  generalize ha0 : s.heap.objs.size + 1 = a0 at oa a0ge a0lt a0ne ⊢
  unfold ksk_tree
  refine wpAny_bind (listItems_at oa rfl ?_)
  refine wpAny_bind (listUpdate_at oa rfl ?_ (by rw [List.size_toArray]; exact hzl) (Nat.zero_le _))
  obtain ⟨n1, oa1⟩ : ∃ n1, (hC.update a0 (Obj.mapSeq fun _ => (#[] : Array Value))).get? a0 = some (seqObj "list" #[] n1) := ⟨_, get?_update_seq oa fun _ => #[]⟩
  refine wpAny_bind (seqEpoch_at oa1 rfl ?_)
  refine wpAny_bind (wpAny_newTuple ?_ (by show its.length ≤ _; exact hzl))
  refine wpAny_bind (wpAny_newList ?_ (Nat.zero_le _))
  refine wpAny_holding ?_
  generalize hht : (hC.update a0 (Obj.mapSeq fun _ => (#[] : Array Value))).push (seqObj "tuple" its.toArray 0) = hT
  have szT : hT.objs.size = hC.objs.size + 1 := by rw [← hht, size_push', Heap.size_update]
  have oaT : hT.get? a0 = some (seqObj "list" #[] n1) := by rw [← hht]; exact Heap.get?_push_of_some _ oa1
  have oaL : (hT.push (seqObj "list" #[] 0)).get? a0 = some (seqObj "list" #[] n1) := Heap.get?_push_of_some _ oaT
  have keep0 : ∀ b o, s.heap.get? b = some o → (hT.push (seqObj "list" #[] 0)).get? b = some o := fun b o z => by
    refine Heap.get?_push_of_some _ ?_
    rw [← hht]
    refine Heap.get?_push_of_some _ ?_
    rw [Heap.get?_update_ne _ _ _ _ (a0ne b o z)]
    exact old b o z
  have okS : (hT.push (seqObj "list" #[] 0)).get? hT.objs.size = some (seqObj "list" #[] 0) := Heap.get?_push_size _ rfl
  have klt : a0 < hT.objs.size := Nat.lt_of_lt_of_le a0lt (by rw [szT]; exact Nat.le_succ _)
  have kne : hT.objs.size ≠ a0 := Nat.ne_of_gt klt
  have kge : s.heap.objs.size ≤ hT.objs.size := Nat.le_trans a0ge (Nat.le_of_lt klt)
  clear klt
  show wpAny (model X.prog X.w) X.A.in1.in1 (ksk_rest a0 (.ref f) false its.toArray n1 (.ref hT.objs.size)) _ _ { s with heap := hT.push (seqObj "list" #[] 0) }
  generalize hkS : hT.objs.size = kS at okS kne kge ⊢
  generalize hhl : hT.push (seqObj "list" #[] 0) = hL at oaL keep0 okS ⊢
  -- the list that is sorted is locked
  have H0 : H a0 = none := I.hok.fresh a0ge
  have HK : H kS = none := I.hok.fresh kge
  have I1 : L2.Inv X pins σ (upd H a0 (.lst [])) { s with heap := hL } := I.laid (t' := s.toks) keep0 a0ge ⟨Nat.zero_le _, [], n1, .nil, oaL⟩
  have hn := I1.nofrz upd_same trivial
  obtain ⟨od, I2⟩ := I1.lock upd_same trivial
  rw [upd_twice] at I2
  have eod : od = seqObj "list" #[] n1 := by
    have z := (I2.hok a0 _ upd_same).1
    rw [show ({ s with heap := hL } : Shared).heap.get? a0 = some (seqObj "list" #[] n1) from oaL] at z
    exact (Option.some.inj z).symm
  obtain ⟨x0, R0⟩ := R.hide (o := .frz od (.lst [])) H0
  have fh : a0 ∉ hid := (R.fresh H0).2
  unfold ksk_rest
  refine wpAny_bind (wpAny_rule ?_)
  rw [← Array.forIn_toList]
  refine wpAny_bind (ksk_fold (fun i s' => ∃ (ρ' : Rho) (H' : Hp) (Sk : Store) (kV : List V) (kD : List D) (kA : Array Value) (n : Nat) (rest : List D), L2.Inv X pins σ H' s' ∧ Ext ρ (upd H a0 (.frz od (.lst []))) ρ' H' ∧ RelS X.K (a0 :: hid) ρ' H' X.mg Sk ∧ Vals kV kA.toList ∧ RepL X.K (a0 :: hid) ρ' H' kV kD ∧
    mapK g (ds.drop i) Sk = some (rest, S1) ∧ ks = kD ++ rest ∧ kD.length = i ∧ H' kS = none ∧ s'.heap.get? kS = some (seqObj "list" kA n)) its 0 { s with heap := hL }
    ⟨ρ, _, S, [], [], #[], 0, ks, I2, Ext.refl, R0, .nil, .nil, hm, rfl, rfl, by rw [upd_ne kne]; exact HK, okS⟩ ?step ?done)
  case step =>
    rintro j x s' hx ⟨ρ', H', Sk, kV, kD, kA, n, rest, I', x', R', rvk, rlk, hmk, eks, lk, nK, oK⟩
    rw [Nat.zero_add] at hmk lk ⊢
    obtain ⟨v, hv, rvx⟩ : ∃ v, xs[j]? = some v ∧ RelV v x := by
      have : ∀ {xs : List V} {its : List Value} {j : Nat}, Vals xs its → its[j]? = some x → ∃ v, xs[j]? = some v ∧ RelV v x := fun {xs its j} h => by
        induction h generalizing j with
        | nil => intro z; simp at z
        | cons r t ih =>
          intro z
          cases j with
          | zero => simp at z; exact ⟨_, rfl, z ▸ r⟩
          | succ j => simpa using ih (by simpa using z)
      exact this rv hx
    obtain ⟨d, hd, rd⟩ := rl.getV hv
    have hdrop : ds.drop j = d :: ds.drop (j + 1) := by
      obtain ⟨hlt, e⟩ := List.getElem?_eq_some_iff.mp hd
      rw [List.drop_eq_getElem_cons hlt, e]
    rw [hdrop] at hmk
    obtain ⟨kd, rest', S2, hg, hm2, erest⟩ := mapK_cons hmk
    have rd' : Rep X.K (a0 :: hid) ρ' H' v d := (Rep.conv (Cv.hide H0) d rd).mono (x0.trans x')
    have fp := I.fpOk kge nK
    have Ip := I'.pinned (fp := [kS]) (fun b hb => by rw [List.mem_singleton.mp hb]; exact ⟨nK, fp.2.1, fp.2.2.1, fp.2.2.2.1, fp.2.2.2.2.1, fp.2.2.2.2.2⟩) (fun b hb => by rw [List.mem_singleton.mp hb]; exact ⟨_, oK, fun v z => nomatch z⟩)
    refine wpAny_bind (wpAny_attempt (wpAny_mono (key_call F hb hrr Ip Ip.env0.in1.in1 R' rd' rvx hg) (fun u s2 hu2 => ?_) fun _ _ z => z.elim))
    obtain ⟨wv, H2, J, rw', ρ2, x2, R2, rk⟩ := hu2
    have pk := J.pin (kS, _) (List.mem_append_right _ (List.mem_append_right _ (mem_pinsAt (by simp) oK)))
    have oK2 : s2.heap.get? kS = some (seqObj "list" kA n) := pk.1
    have nK2 : H2 kS = none := pk.2.1
    have lkA : kA.size = j := by
      have h1 : kV.length = kA.size := rvk.length.trans (by simp)
      have h2 : kV.length = kD.length := rlk.length
      rw [← h1, h2]
      first | exact lk | omega
    have hjl : j < its.length := (List.getElem?_eq_some_iff.mp hx).1
    try dsimp only
    obtain ⟨n2, oK3⟩ : ∃ n2, (s2.heap.update kS (Obj.mapSeq (·.push u))).get? kS = some (seqObj "list" (kA.push u) n2) := ⟨_, get?_update_seq oK2 (·.push u)⟩
    have sb := Heap.SameBut.update s2.heap kS (Obj.mapSeq (·.push u))
    have fp2 := I.fpOk kge nK2
    refine wpAny_bind (listUpdate_at oK2 rfl ?_ (by omega) (by rw [Array.size_push]; omega))
    refine wpAny_pure ⟨rfl, ρ2, H2, S2, kV ++ [wv], kD ++ [kd], kA.push u, n2, rest', J.unpinned.turned (t' := s2.toks) (fun b o hb z => (sb.2 b hb).trans z) fp2.1 fp2.2.1 fp2.2.2.2.1 fp2.2.2.2.2.1 fp2.2.2.2.2.2, x'.trans x2, R2, ?_, (rlk.mono x2).append (.cons rk .nil), hm2, by rw [eks, erest, List.append_assoc]; rfl, by simp [lk], nK2, oK3⟩
    rw [Array.toList_push]
    exact rvk.append (.cons rw' .nil)
  case done =>
    rintro s' ⟨ρ', H', Sk, kV, kD, kA, n, rest, I', x', R', rvk, rlk, hmk, eks, lk, nK, oK⟩
    rw [Nat.zero_add] at hmk lk
    rw [List.drop_of_length_le (by omega)] at hmk
    cases hmk
    rw [List.append_nil] at eks
    subst eks
    have hA0 : H' a0 = some (.frz od (.lst [])) := x'.frz a0 od _ upd_same
    have oA : s'.heap.get? a0 = some (seqObj "list" #[] n1) := by rw [← eod]; exact (I'.hok a0 _ hA0).1
    have hsz : kA.size = its.length := by
      have h1 : kV.length = kA.size := rvk.length.trans (by simp)
      have h2 : kV.length = ks.length := rlk.length
      rw [← h1, h2]
      exact lk
    have rds : RepL X.K (a0 :: hid) ρ' H' xs ds := (RepL.conv (Cv.hide H0) ds rl).mono (x0.trans x')
    have hk : PySem.W.EachIs (fun v k => ∃ as, Reads s'.heap v k as) kA.toList (ks.map D.py) := each_py (K := X.K) (hid := hid) (ρ := ρ') (H := H') (each_reads I' rvk rlk hf)
    have al : PySem.W.AllAlike (ks.map D.py) := by
      intro x hx y hy
      obtain ⟨d, hd, rfl⟩ := List.mem_map.mp hx
      obtain ⟨e, he, rfl⟩ := List.mem_map.mp hy
      exact List.all_eq_true.mp (List.all_eq_true.mp hal d hd) e he
    have so : PySem.W.Sortable (ks.map D.py) := by
      rcases Bool.or_eq_true_iff.mp hsb with h | h
      · refine .inl fun x hx => ?_
        obtain ⟨d, hd, rfl⟩ := List.mem_map.mp hx
        have h1 := List.all_eq_true.mp h d hd
        cases d with
        | tup l => cases l with
          | nil => simp at h1
          | cons e l => exact ⟨_, _, rfl⟩
        | _ => simp at h1
      · refine .inr fun x hx => ?_
        obtain ⟨d, hd, rfl⟩ := List.mem_map.mp hx
        have h1 := List.all_eq_true.mp h d hd
        have h2 := fitL_mem hf hd
        cases d with
        | non => simp at h1
        | tup l => simp at h1
        | con l => simp [D.fit] at h2
        | ptr l => simp [D.fit] at h2
        | _ => exact ⟨by simp [D.py], fun xs => by simp [D.py]⟩
    have hd : ∀ d, d ∈ ks.map D.py → X.A.in1.in1.units + d.depth < cLine := fun x hx => by
      obtain ⟨d, hd, rfl⟩ := List.mem_map.mp hx
      have := (fit_shape d 50 (fitL_mem hf hd)).2
      show X.A.units + 1 + 1 + _ < _
      omega
    obtain ⟨G, g1, g2⟩ := heap_off s'.heap kS
    try dsimp only
    refine wpAny_bind (listItems_at oK rfl ?_)
    refine PySem.W.keyH_end (κ := PySem.W.dataKind s'.heap (ks.map D.py)) (h₁ := G) (vs := its) (fun b o _ z => ?_) g2 oK oA kne (PySem.W.SortsAt.data (s := s') hk al so hd) hsz hzl fun h3 tk3 c3 kp3 oA3 => ⟨rfl, ?_⟩
    · by_cases hb : b = kS
      · rw [hb, g2] at z; cases z
      · rw [← g1 b hb]; exact z
    · have ko : PySem.W.KeyedOut false ((ks.zip ds).map fun p => p.1.py) its (PySem.W.sortVals (PySem.W.dataKind s'.heap (ks.map D.py)) false kA.toList its) := by
        have e : (ks.zip ds).map (fun p => p.1.py) = ks.map D.py := by
          rw [show (fun p : D × D => p.1.py) = D.py ∘ Prod.fst from rfl, ← List.map_map, List.map_fst_zip (by omega)]
        rw [e]
        exact ⟨s'.heap, kA.toList, al, rfl, hk⟩
      generalize PySem.W.sortVals (PySem.W.dataKind s'.heap (ks.map D.py)) false kA.toList its = out at ko oA3
      have eo := PySem.W.keyedOut_each (R := fun (u : Value) (p : D × D) => ∃ x, RelV x u ∧ Rep X.K (a0 :: hid) ρ' H' x p.2) (fun p : D × D => p.1.py) ko (each_zip (each_of rv rds) (by omega))
      have olen : out.length = its.length := by
        have h1 := eo.length
        rw [List.length_mergeSort, List.length_zip] at h1
        omega
      obtain ⟨zs, rz2, lz⟩ := of_each (each_snd eo)
      have lz' : RepL X.K (a0 :: hid) ρ' H' zs (((ks.zip ds).mergeSort fun a b => leD a.1 b.1).map (·.2)) := lz
      -- the object that was locked gets them
      have fp3 := I.fpOk kge nK
      have keep3 : ∀ b o, b ≠ kS → b ≠ a0 → s'.heap.get? b = some o → h3.get? b = some o := fun b o hb hb2 z => kp3 b o hb2 (by rw [g1 b hb]; exact z)
      have om : (h3.update a0 fun _ => od).get? a0 = some od := Heap.get?_update_self (fun _ => od) oA3 (by rw [eod]; rfl)
      have ne3 : ∀ b, b ≠ a0 → (h3.update a0 fun _ => od).get? b = h3.get? b := fun b hb => Heap.get?_update_ne _ _ _ _ hb
      have J1 := I'.turned (t' := tk3) (h' := h3.update a0 fun _ => od) (fun b o hb z => by
        by_cases hba : b = a0
        · subst hba
          rw [oA] at z
          cases z
          rw [om, eod]
        · rw [ne3 b hba]; exact keep3 b o hb hba z) fp3.1 fp3.2.1 fp3.2.2.2.1 fp3.2.2.2.2.1 fp3.2.2.2.2.2
      have J2 := J1.unlock hA0 hn
      have J3 := J2.write (x := a0) (e := a0) (o := .lst zs) (h' := h3) (t' := tk3) (by rw [upd_same]; trivial) (.inl rfl) (fun b u hb z => by rw [← ne3 b hb]; exact z) ⟨_, oA3⟩ ⟨by rw [rz2.length, olen]; exact hzl, out, c3, rz2, oA3⟩
      rw [upd_twice] at J3
      obtain ⟨d1, d2⟩ := R'.drop fh
      have fin := q ρ' (without H' a0) zs a0 (ext_off H0 (x0.trans x')) d1 (RepL.conv d2 _ lz') (if_pos rfl)
      rw [upd_without] at fin
      exact ⟨.ref a0, _, J3, rfl, fin⟩
theorem s_sortk {a : CE} {ea : PySem.Expr} {p pos np kpos : Pos} {lv : Nat} {x : Str} {g : Fn} (hc : X.calm = true) (hu : X.A.units + 65 < cLine) (hg : Gl X "sorted") (hm : X.mg "sorted" = none) (C : CalOk X.prog X.w X.K X.mg X.base lv x g) (hr : Room (lv + 2) X.A) (gx : Gl X x) (hd : (x == ("__debug__" : Str)) = false)
    (ha : PE X ea (tE X W a)) (hs : isStar ea = false) : PE X (.Call (.Name "sorted" p) [ea] [⟨some "key", .Name x np, kpos⟩] pos) (tL X W (.sortk a x g)) := by
  obtain ⟨k, f, fd, ps, F, hmf, hk, hb, hkl⟩ := C.ex
  have pk : PK X [⟨some "key", .Name x np, kpos⟩] (tCons (tC (.ref f)) tNil) := pk_cons (pe_glob gx hmf rfl hd) pk_nil
  refine PE.imp (pe_callBK (ks := ["key"]) (cr_sortedKeyD hu F hb (hr.mono (by omega))) hg hm (by decide +kernel) (pa_cons ha pa_nil (star_cons hs [] X.env)) pk (by decide) (by decide) (by rw [star_cons hs [] X.env]; rfl) (by rw [star_cons hs [] X.env]; rfl) rfl rfl rfl) fun σ H Q h => ?_
  have h' : Go X W σ H (fun env S => (ev a env S).bind fun x S => (match x with
    | .tup _ => .stuck
    | .con _ => .stuck
    | x => (match seqOf x S with
      | some ds => (match mapK g ds S with
        | some (ks, S2) => if fitL ks 50 && alikeAllD ks && sortableD ks then .ok (((ks.zip ds).mergeSort fun a b => leD a.1 b.1).map (·.2)) S2 else .stuck
        | none => .stuck)
      | none => .stuck))) (fun hid ρ H' ds _ => ∀ xs p, RepL X.K hid ρ H' xs ds → H' p = none → Q (.ref p) (upd H' p (.lst xs))) := h
  refine h'.bind fun hid ρ1 H1 x S1 env r1 e1 p1 v rv => ?_
  have key : (∀ es, x ≠ .tup es) ∧ (∀ es, x ≠ .con es) ∧ Post X.K X.mg hid ρ1 H1 (match seqOf x S1 with
      | some ds => (match mapK g ds S1 with
        | some (ks, S2) => if fitL ks 50 && alikeAllD ks && sortableD ks then .ok (((ks.zip ds).mergeSort fun a b => leD a.1 b.1).map (·.2)) S2 else .stuck
        | none => .stuck)
      | none => .stuck) (fun ρ H' ds _ => ∀ xs p, RepL X.K hid ρ H' xs ds → H' p = none → Q (.ref p) (upd H' p (.lst xs))) (fun cls d H' => W cls d σ H') := by
    cases x with
    | tup es => exact p1.elim
    | con es => exact p1.elim
    | _ => exact ⟨(fun es z => by cases z), (fun es z => by cases z), p1⟩
  obtain ⟨nt, nc, p2⟩ := key
  split at p2
  · rename_i ds q
    split at p2
    · rename_i ks S2 hm2
      split at p2
      · rename_i hcc
        obtain ⟨ad, xs, rfl, hs, rl⟩ := lst_rep r1 rv q nt nc
        obtain ⟨hc1, hc3⟩ := and2 hcc
        obtain ⟨hc1, hc2⟩ := and2 hc1
        exact ⟨ad, xs, ds, hid, ρ1, S1, S2, ks, rfl, rfl, hs, r1, rl, hm2, hc1, hc2, hc3, fun ρ' H' zs p x' r' lz hp => p2 ρ' H' x' r' zs p lz hp⟩
      · exact p2.elim
    · exact p2.elim
  · exact p2.elim
end
section
variable {X : Cx} {W : WX} {σ : L2.St} {H : Hp} {c a b : CE} {cs : CEs} {e ea eb ec eo ei ep ej : PySem.Expr} {p pos : Pos}
/-! ### d.get(k, x) -/
theorem isDict_rep {hid : List Addr} {ρ : Rho} {S : Store} {v : V} {d : D} (r : RelS X.K hid ρ H X.mg S) (rv : Rep X.K hid ρ H v d) (h : isDict d S = true) : ∃ a, v = .ref a ∧ IsD H a := by
  unfold isDict at h
  split at h
  · split at h
    · rename_i kvs q
      obtain ⟨ad, ha, _, ks, h1, h2⟩ := r.at_ q (by simp)
      exact ⟨ad, rv.ptr_ref ha, .inl ⟨ks, .inl h1⟩⟩
    · rename_i kvs q
      obtain ⟨ad, ha, _, ks, o, h1, h2⟩ := r.at_ q (by simp)
      exact ⟨ad, rv.ptr_ref ha, .inl ⟨ks, .inr ⟨o, h1⟩⟩⟩
    · rename_i kvs q
      obtain ⟨ad, ha, _, ks, h1, h2⟩ := r.at_ q (by simp)
      exact ⟨ad, rv.ptr_ref ha, .inr ⟨ks, .inl h1⟩⟩
    · cases h
  · cases h
theorem s_dgetd {apos cpos : Pos} (hu : X.A.units + 65 < cLine) (ha : PE X eo (tE X W a)) (hb : PE X eb (tE X W b)) (hc : PE X ec (tE X W c)) (h1 : isCall eo = false) (h2 : isStar eb = false) (h3 : isStar ec = false) (hl : (apos.endLine == cpos.line) = true) :
    PE X (.Call (.Attribute eo "get" apos) [eb, ec] [] cpos) (tE X W (.dgetd a b c)) := by
  have st : starEach [eb, ec] X.env = (false, eval eb X.env) :: (false, eval ec X.env) :: starEach [] X.env := by rw [star_cons h2 [ec] X.env, star_cons h3 [] X.env]
  have m : M2 X eo "get" apos eb ec cpos := ⟨base_no h1, by rw [st]; rfl, hl, by rw [st]; rfl⟩
  refine PE.imp (pe_dget2 (by omega) ha hb hc m) fun σ H Q h => ?_
  have h' : Go X W σ H (fun env S => (ev a env S).bind fun x S => if isDict x S then (ev b env S).bind fun y S => (ev c env S).bind fun z S => (match dGet x y S with | some o => .ok (o.getD z) S | none => .stuck) else .stuck) (fun hid ρ H' d _ => ∀ v, Rep X.K hid ρ H' v d → Q v H') := h
  refine h'.bind fun hid ρ1 H1 x S1 env r1 e1 p1 v rv => ?_
  split at p1
  · rename_i hd
    obtain ⟨ad, ea, isd⟩ := isDict_rep r1 rv hd
    refine ⟨ad, ea, isd, hid, ρ1, env, S1, r1, e1, p1.bind fun ρ2 H2 y S2 x2 r2 p2 w rw' => ?_⟩
    refine ⟨hid, ρ2, env, S2, r2, e1.mono x2, p2.bind fun ρ3 H3 z S3 x3 r3 p3 u ru => ?_⟩
    split at p3
    · rename_i o hg
      obtain ⟨ad', ov, ea', g, q⟩ := dget_rep r3 ((rv.mono x2).mono x3) (rw'.mono x3) hg
      have : ad' = ad := by rw [ea] at ea'; cases ea'; rfl
      subst this
      refine ⟨ov, g, ?_⟩
      rcases q with ⟨rfl, rfl⟩ | ⟨w', d, rfl, rfl, q3⟩
      · exact p3.here r3 _ ru
      · exact p3.here r3 _ q3
    · exact p3.elim
  · exact p1.elim
/-! ### join -/
theorem strs_rep {K : PySem.W.Frag} {hid : List Addr} {ρ : Rho} : ∀ {vs : List V} {ds : List D} {ys : List Str}, RepL K hid ρ H vs ds → asStrs ds = some ys → vs = ys.map V.str
  | _, _, _, .nil, h => by cases h; rfl
  | _, _, _, .cons (d := d) (ds := ds) r rs, h => by
    have h' : (match d with | .str i => (asStrs ds).map (i :: ·) | _ => none) = some _ := h
    split at h'
    · obtain ⟨zs, h1, rfl⟩ := Option.map_eq_some_iff.mp h'
      cases r
      rw [strs_rep rs h1]
      rfl
    · cases h'
theorem s_join {apos cpos : Pos} (ha : PE X eo (tE X W a)) (hb : PE X eb (tE X W b)) (h1 : isCall eo = false) (h2 : isStar eb = false) (hl : (apos.endLine == cpos.line) = true) :
    PE X (.Call (.Attribute eo "join" apos) [eb] [] cpos) (tE X W (.join a b)) := by
  have st : starEach [eb] X.env = [(false, eval eb X.env)] := star_cons h2 [] X.env
  refine PE.imp (pe_join ha hb st (base_no h1) hl) fun σ H Q h => ?_
  have h' : Go X W σ H (fun env S => (ev a env S).bind fun x S => (match x with | .str s => (ev b env S).bind fun y S => Rs.of (joinD s (seqOf y S)) S | _ => .stuck)) (fun hid ρ H' d _ => ∀ v, Rep X.K hid ρ H' v d → Q v H') := h
  refine h'.bind fun hid ρ1 H1 x S1 env r1 e1 p1 v rv => ?_
  split at p1
  · rename_i s
    cases rv
    refine ⟨⟨s, rfl⟩, hid, ρ1, env, S1, r1, e1, p1.bind fun ρ2 H2 y S2 x2 r2 p2 w rw' => ?_⟩
    obtain ⟨d, hd, k⟩ := p2.of
    unfold joinD at hd
    split at hd
    · cases hd
    · rename_i ds q
      split at hd
      · cases hd
      · rename_i ys hy
        split at hd
        · rename_i hz
          cases hd
          obtain ⟨ad, xs, rfl, hs, rl⟩ := seq_rep r2 rw' q
          have ex := strs_rep rl hy
          subst ex
          exact ⟨s, ad, ys, rfl, rfl, hs, by omega, k ρ2 H2 Ext.refl r2 _ (.str _)⟩
        · cases hd
  · exact p1.elim
/-! ### o[i], p[j] = a, b -/
theorem pair_sub {o1 i1 o2 i2 : PySem.Expr} {p1 p2 tp p3 : Pos} {k k2 : Nat} {env : Env} (sa : isStar ea = false) (sb : isStar eb = false) :
    swappedStores [.Tuple [.Subscript o1 i1 p1, .Subscript o2 i2 p2] k tp] (.Tuple [ea, eb] k2 p3) env = pure none := by
  unfold swappedStores
  have st : ([ea, eb].any fun | .Starred .. => true | _ => false) = false := by
    cases ea <;> first | (cases sa; done) | (cases eb <;> first | (cases sb; done) | rfl)
  simp only [List.length_cons, List.length_nil]
  cases hb : (env.blockKind != .function)
  · simp [hb, st]
  · simp [hb]
theorem putp_eq {a b : CE} {env : MEnv} {S : Store} {R : MI.D → MI.D → Store → Fl} : ((ev a env S).fl env fun d S => (ev b env S).fl env fun d2 S => R d d2 S) =
    (ev (.tup (.cons a (.cons b .nil))) env S).fl env fun t S => (match t with | .tup [d, d2] => R d d2 S | _ => Fl.stuck) := by
  show _ = (((ev a env S).bind fun x S => (((ev b env S).bind fun y S => (Rs.ok [] S).bind fun zs S => Rs.ok (y :: zs) S)).bind fun xs S => Rs.ok (x :: xs) S).bind fun ds S => Rs.ok (MI.D.tup ds) S).fl env _
  cases ev a env S with
  | ok x S1 =>
    show ((ev b env S1).fl env fun d2 S => R x d2 S) = ((((ev b env S1).bind _).bind _).bind _).fl env _
    cases ev b env S1 <;> rfl
  | ex c fs S1 => rfl
  | stuck => rfl
theorem s_putp {o i q j a b : CE} {p1 p2 tp p3 : Pos} {k k2 : Nat} (hc : X.calm = true) (hu : X.A.units + 65 < cLine) (ho : PE X eo (tE X W o)) (hi : PE X ei (tE X W i)) (hp : PE X ep (tE X W q)) (hj : PE X ej (tE X W j)) (ha : PE X ea (tE X W a)) (hb : PE X eb (tE X W b))
    (sa : isStar ea = false) (sb : isStar eb = false) (s1 : isSlice ei = false) (s2 : isSlice ej = false) :
    PS X (.Assign [.Tuple [.Subscript eo ei p1, .Subscript ep ej p2] k tp] (.Tuple [ea, eb] k2 p3) pos) (tS X W (ex (.putp o i q j a b))) := by
  have g1 : PG X (.Subscript eo ei p1) (gSub (tE X W o) (tE X W i) (rPut X)) := pg_sub ho hi (put_ok hu) (by intro v; cases ei <;> first | rfl | cases s1)
  have g2 : PG X (.Subscript ep ej p2) (gSub (tE X W q) (tE X W j) (rPut X)) := pg_sub hp hj (put_ok hu) (by intro v; cases ej <;> first | rfl | cases s2)
  have hg : PG X (.Tuple [.Subscript eo ei p1, .Subscript ep ej p2] k tp) (gTup X.K 2 (gCons _ (gCons _ gNil))) := pg_tup hc (pgs_cons g1 (pgs_cons g2 pgs_nil rfl) rfl) rfl rfl
  have he : PE X (.Tuple [ea, eb] k2 p3) (tE X W (.tup (.cons a (.cons b .nil)))) := s_tup (show 2 ≤ 1000000 by decide) (s_acons ha (s_acons hb s_anil sb) sa)
  refine PS.imp (ps_asg he hg rfl (pair_sub sa sb)) fun D σ H h => ?_
  have h' : tS X W (fun env S => (ev a env S).fl env fun d S => (ev b env S).fl env fun d2 S => (ev o env S).fl env fun x S => (ev i env S).fl env fun k S => (match (if isDict x S then dPut x k d S else putL x k d S) with
    | some S => (ev q env S).fl env fun x S => (ev j env S).fl env fun k S => (match (if isDict x S then dPut x k d2 S else putL x k d2 S) with | some S' => .nx env S' | none => .stuck)
    | none => .stuck)) D σ H := h
  have e0 : (fun env S => (ev a env S).fl env fun d S => (ev b env S).fl env fun d2 S => (ev o env S).fl env fun x S => (ev i env S).fl env fun k S => (match (if isDict x S then dPut x k d S else putL x k d S) with
    | some S => (ev q env S).fl env fun x S => (ev j env S).fl env fun k S => (match (if isDict x S then dPut x k d2 S else putL x k d2 S) with | some S' => .nx env S' | none => .stuck)
    | none => .stuck)) = fun env S => (ev (.tup (.cons a (.cons b .nil))) env S).fl env fun t S => (match t with
    | .tup [d, d2] => ((ev o env S).fl env fun x S => (ev i env S).fl env fun k S => (match (if isDict x S then dPut x k d S else putL x k d S) with
      | some S => (ev q env S).fl env fun x S => (ev j env S).fl env fun k S => (match (if isDict x S then dPut x k d2 S else putL x k d2 S) with | some S' => .nx env S' | none => .stuck)
      | none => .stuck))
    | _ => Fl.stuck) := by
    funext env S
    exact putp_eq
  rw [e0] at h'
  refine h'.fl fun hid ρ1 H1 t S1 env r1 e1 p1 v rv => ?_
  split at p1
  · rename_i d d2
    cases rv with
    | tup t1 t2 t3 t4 =>
      cases t4 with
      | cons rd t5 => cases t5 with
        | cons rd2 t6 => cases t6 with
          | nil =>
            refine ⟨_, _, rfl, SqT.of t1, rfl, _, _, rfl, ?_⟩
            refine ⟨hid, ρ1, env, S1, r1, e1, p1.fl e1 fun ρ2 H2 x S2 x2 r2 p2 w rw' => ?_⟩
            refine ⟨hid, ρ2, env, S2, r2, e1.mono x2, p2.fl (e1.mono x2) fun ρ3 H3 kk S3 x3 r3 p3 u ru => ?_⟩
            split at p3
            · rename_i S4 hs4
              refine ⟨hid, ρ3, S3, x, kk, d, S4, r3, rw'.mono x3, ru, rd.mono (x2.trans x3), hs4, fun ρ4 H4 x4 r4 => ?_⟩
              have e4 := ((e1.mono x2).mono x3).mono x4
              refine ⟨_, _, rfl, ?_⟩
              refine ⟨hid, ρ4, env, S4, r4, e4, (PostF.ext x4 p3).fl e4 fun ρ5 H5 y S5 x5 r5 p5 w2 rw2 => ?_⟩
              refine ⟨hid, ρ5, env, S5, r5, e4.mono x5, p5.fl (e4.mono x5) fun ρ6 H6 k6 S6 x6 r6 p6 u6 ru6 => ?_⟩
              split at p6
              · rename_i S7 hs7
                exact ⟨hid, ρ6, S6, y, k6, d2, S7, r6, rw2.mono x6, ru6, rd2.mono ((((x2.trans x3).trans x4).trans x5).trans x6), hs7, fun ρ' H' x7 r7 => ⟨rfl, (PostF.ext x7 p6).next r7 (((e4.mono x5).mono x6).mono x7)⟩⟩
              · exact p6.elim
            · exact p3.elim
  · exact p1.elim
end
end MI
namespace MI
open PySem PySem.Spec L2
/-! ### the check: this text is read so -/
def nmOk (x : Str) : Bool := !(x == ("__debug__" : Str)) && !(x == ("__classdict__" : Str))
def visB (sc : Scope) (x : Str) : Bool := match sc.names.lookup x with | some .local => true | some .cell => true | some .free => true | _ => false
def locB (sc : Scope) (fnB : Str → Bool) (x : Str) : Bool := match sc.names.lookup x with | some .local => true | some .cell => fnB x | _ => false
def glB (sc : Scope) (x : Str) : Bool := match sc.names.lookup x with | some .globalImplicit => true | _ => false
def varB (N : List Str) (sc : Scope) (i : Nat) (e : PySem.Expr) : Bool := match e with | .Name x _ => decide (N[i]? = some x) && (visB sc x && nmOk x) | _ => false
def biNames : List Str := ["abs", "max", "min", "int", "len", "tuple", "sum", "any", "all", "ord", "str", "isinstance", "list", "bool", "range", "enumerate", "sorted"]
def nameAt (N : List Str) (sc : Scope) (fnB : Str → Bool) (i : Nat) (e : PySem.Expr) : Bool := match e with | .Name x _ => decide (N[i]? = some x) && locB sc fnB x | _ => false
def namesAt (N : List Str) (sc : Scope) (fnB : Str → Bool) : List Nat → List PySem.Expr → Bool
  | [], [] => true
  | i :: is, e :: es => nameAt N sc fnB i e && namesAt N sc fnB is es
  | _, _ => false
def tgB (N : List Str) (sc : Scope) (fnB : Str → Bool) : Tg → PySem.Expr → Bool
  | .name i, e => nameAt N sc fnB i e
  | .tup is, e => (match e with | .Tuple es _ _ => namesAt N sc fnB is es | _ => false)
def notSet (e : PySem.Expr) : Bool := match e with | .Set _ _ _ => false | _ => true
def blkFn (scope : Scope) : Str → Bool := fun x => scope.names.lookup x == some .cell
def isIf : CE → Bool
  | .ite _ _ _ => true
  | _ => false
mutual
def CE.tst : CE → Bool
  | .ite _ _ _ => false
  | .not a => a.tst
  | .band es => es.tst
  | .bor es => es.tst
  | _ => true
def CEs.tst : CEs → Bool
  | .nil => true
  | .cons e es => e.tst && es.tst
end
/-- isinstance(x, (list, tuple)) is told apart -/
def isInstOf (f : BFn) : Bool := isiOk f
mutual
def chkE (N : List Str) (sc : Scope) : CE → PySem.Expr → Bool
  | .var i, e => varB N sc i e
  | .frz i, e => varB N sc i e
  | .non, e => (match e with | .Constant .none _ _ => true | _ => false)
  | .bl b, e => (match e with | .Constant (.bool c) _ _ => b == c | _ => false)
  | .int i, e => (match e with | .Constant (.int j) _ _ => i == j | _ => false)
  | .str s, e => (match e with | .Constant (.str t) _ _ => s == t | _ => false)
  | .glob x _, e => (match e with | .Name y _ => decide (x = y) && (glB sc x && nmOk x) | _ => false)
  | .bin op a b, e => (match e with | .BinOp l o r _ => decide (o = opOf op) && (chkE N sc a l && chkE N sc b r) | _ => false)
  | .neg a, e => (match e with | .UnaryOp .USub l _ => chkE N sc a l | _ => false)
  | .not a, e => (match e with | .UnaryOp .Not l _ => chkE N sc a l | _ => false)
  | .band es, e => (match e with | .BoolOp .And ls _ => chkEs N sc es ls && (match ls with | [] => false | _ :: _ => true) | _ => false)
  | .bor es, e => (match e with | .BoolOp .Or ls _ => chkEs N sc es ls && (match ls with | [] => false | _ :: _ => true) | _ => false)
  | .cmp op a b, e => (match e with | .Compare l [o] [r] _ => decide (o = cmpOf op) && ((chkE N sc a l && chkE N sc b r) && notSet r) | _ => false)
  | .chain op op' a b c, e => (match e with | .Compare l [o, o'] [r, s] _ => (decide (o = cmpOf op) && decide (o' = cmpOf op')) && (((chkE N sc a l && chkE N sc b r) && chkE N sc c s) && notSet s) | _ => false)
  | .isN a, e => (match e with | .Compare l [.Is] [.Constant .none _ _] _ => chkE N sc a l | _ => false)
  | .notN a, e => (match e with | .Compare l [.IsNot] [.Constant .none _ _] _ => chkE N sc a l | _ => false)
  | .ite c a b, e => (match e with | .IfExp t l r _ => (c.tst && chkE N sc c t) && (chkE N sc a l && chkE N sc b r) | _ => false)
  | .call x _ es, e => (match e with | .Call (.Name y _) (l :: ls) [] _ => (decide (x = y) && (glB sc x && nmOk x)) && (chkEs N sc es (l :: ls) && ((l :: ls).all fun e => !isStar e)) | _ => false)
  | .bi f es, e => (match e with
    | .Call (.Name y _) (l :: ls) [] _ => if biCall f then (decide (y = biName f) && glB sc (biName f)) && (chkEs N sc es (l :: ls) && ((l :: ls).all fun e => !isStar e))
      else (match ls with
        | [.Name T _] => (isiOk f && ((T == Str.ofString (isiTy f)) && biNames.contains T)) && ((decide (y = ("isinstance" : Str)) && glB sc ("isinstance" : Str)) && (glB sc T && (!isStar l && (match es with | .cons c .nil => chkE N sc c l | _ => false))))
        | _ => false)
    | _ => false)
  | .tup es, e => (match e with | .Tuple ls _ _ => decide (es.len ≤ 1000000) && (chkEs N sc es ls && (ls.all fun e => !isStar e)) | _ => false)
  | .new _ l, e => chkL N sc l e
  | .dnew _, e => (match e with | .Dict [] [] _ => true | _ => false)
  | .dcomp _ _ _ _ _ _, _ => false
  | .dgetd a b c, e => (match e with | .Call (.Attribute eo at_ apos) [eb, ec] [] cpos => (decide (at_ = ("get" : Str)) && (chkE N sc a eo && (chkE N sc b eb && chkE N sc c ec))) && ((!isCall eo && (!isStar eb && !isStar ec)) && (apos.endLine == cpos.line)) | _ => false)
  | .join a b, e => (match e with | .Call (.Attribute eo at_ apos) [eb] [] cpos => (decide (at_ = ("join" : Str)) && (chkE N sc a eo && chkE N sc b eb)) && ((!isCall eo && !isStar eb) && (apos.endLine == cpos.line)) | _ => false)
  | .ix a b, e => (match e with | .Subscript l r _ => (chkE N sc a l && chkE N sc b r) && !isSlice r | _ => false)
  | .sl a lo hi, e => (match e with | .Subscript l (.Slice p q none _) _ => chkE N sc a l && (chkN N sc lo p && chkN N sc hi q) | _ => false)
def chkEs (N : List Str) (sc : Scope) : CEs → List PySem.Expr → Bool
  | .nil, ls => (match ls with | [] => true | _ => false)
  | .cons e es, ls => (match ls with | l :: ls => chkE N sc e l && chkEs N sc es ls | _ => false)
def chkN (N : List Str) (sc : Scope) : CO → Option PySem.Expr → Bool
  | .none, o => (match o with | none => true | _ => false)
  | .some e, o => (match o with | some l => chkE N sc e l | _ => false)
def chkC (N : List Str) (sc : Scope) : CO → List PySem.Expr → Bool
  | .none, o => (match o with | [] => true | _ => false)
  | .some e, o => (match o with | [l] => e.tst && chkE N sc e l | _ => false)
def chkL (N : List Str) (sc : Scope) : CL → PySem.Expr → Bool
  | .disp es, e => (match e with | .List ls _ => decide (es.len ≤ 1000000) && (chkEs N sc es ls && (ls.all fun e => !isStar e)) | _ => false)
  | .comp own t it c elt, e => (match e with
    | .ListComp el [⟨tg, iter, ifs, 0⟩] scope _ => ((blkC N sc scope own && (t.slots.all fun i => decide (i ∈ own.map (·.2)))) && (chkI N sc it tg iter && tgB N (relS scope sc) (blkFn scope) t tg)) &&
      ((chkC N (relS scope sc) c ifs && chkE N (relS scope sc) elt el) && notSet iter)
    | _ => false)
  | .sorted a, e => (match e with | .Call (.Name y _) [l] [] _ => (decide (y = ("sorted" : Str)) && glB sc ("sorted" : Str)) && (chkE N sc a l && !isStar l) | _ => false)
  | .sortk a x _, e => (match e with | .Call (.Name y _) [l] [⟨some kw, .Name z _, _⟩] _ => ((decide (y = ("sorted" : Str)) && glB sc ("sorted" : Str)) && (decide (kw = ("key" : Str)) && (decide (z = x) && (glB sc x && nmOk x)))) && (chkE N sc a l && !isStar l) | _ => false)
  | .list a, e => (match e with | .Call (.Name y _) [l] [] _ => (decide (y = ("list" : Str)) && glB sc ("list" : Str)) && (chkE N sc a l && !isStar l) | _ => false)
  | .slice _ _ _, _ => false
  | .cat _ _, _ => false
  | .keys a, e => (match e with | .Call (.Name y _) [.Call (.Attribute l at_ apos) [] [] cpos] [] _ => (decide (y = ("list" : Str)) && (glB sc ("list" : Str) && decide (at_ = ("keys" : Str)))) && ((chkE N sc a l && !isCall l) && (apos.endLine == cpos.line)) | _ => false)
def chkI (N : List Str) (sc : Scope) : CI → PySem.Expr → PySem.Expr → Bool
  | .seq a, _, e => chkE N sc a e
  | .rng1 a, _, e => (match e with | .Call (.Name y _) [l] [] _ => (decide (y = ("range" : Str)) && glB sc ("range" : Str)) && (chkE N sc a l && !isStar l) | _ => false)
  | .rng2 a b, _, e => (match e with | .Call (.Name y _) [l, r] [] _ => (decide (y = ("range" : Str)) && glB sc ("range" : Str)) && ((chkE N sc a l && !isStar l) && (chkE N sc b r && !isStar r)) | _ => false)
  | .enum a, tg, e => (match tg with
    | .Tuple _ _ _ => (match e with | .Call (.Name y _) [l] [] _ => (decide (y = ("enumerate" : Str)) && glB sc ("enumerate" : Str)) && (chkE N sc a l && !isStar l) | _ => false)
    | _ => false)
  | .text a, _, e => chkE N sc a e
  | .cell i, _, e => varB N sc i e
  | .cellE a, _, e => chkE N sc a e
end
/-! ### what the calls and the module's names stand for -/
mutual
def CE.good (G : Str → Fn → Prop) (GD : Str → D → Prop) : CE → Prop
  | .glob x d => GD x d
  | .bin _ a b => a.good G GD ∧ b.good G GD
  | .neg a => a.good G GD
  | .not a => a.good G GD
  | .band es => es.good G GD
  | .bor es => es.good G GD
  | .cmp _ a b => a.good G GD ∧ b.good G GD
  | .chain _ _ a b c => a.good G GD ∧ b.good G GD ∧ c.good G GD
  | .isN a => a.good G GD
  | .notN a => a.good G GD
  | .ite c a b => c.good G GD ∧ a.good G GD ∧ b.good G GD
  | .call x g es => G x g ∧ es.good G GD
  | .bi _ es => es.good G GD
  | .tup es => es.good G GD
  | .new _ l => l.good G GD
  | .dcomp _ _ it c k v => it.good G GD ∧ c.good G GD ∧ k.good G GD ∧ v.good G GD
  | .dgetd a b c => a.good G GD ∧ b.good G GD ∧ c.good G GD
  | .join a b => a.good G GD ∧ b.good G GD
  | .ix a b => a.good G GD ∧ b.good G GD
  | .sl a lo hi => a.good G GD ∧ lo.good G GD ∧ hi.good G GD
  | _ => True
def CO.good (G : Str → Fn → Prop) (GD : Str → D → Prop) : CO → Prop
  | .none => True
  | .some e => e.good G GD
def CEs.good (G : Str → Fn → Prop) (GD : Str → D → Prop) : CEs → Prop
  | .nil => True
  | .cons e es => e.good G GD ∧ es.good G GD
def CL.good (G : Str → Fn → Prop) (GD : Str → D → Prop) : CL → Prop
  | .disp es => es.good G GD
  | .comp _ _ it c e => it.good G GD ∧ c.good G GD ∧ e.good G GD
  | .sorted e => e.good G GD
  | .sortk e x g => e.good G GD ∧ G x g
  | .list e => e.good G GD
  | .slice e lo hi => e.good G GD ∧ lo.good G GD ∧ hi.good G GD
  | .cat a b => a.good G GD ∧ b.good G GD
  | .keys e => e.good G GD
def CI.good (G : Str → Fn → Prop) (GD : Str → D → Prop) : CI → Prop
  | .seq e => e.good G GD
  | .rng1 a => a.good G GD
  | .rng2 a b => a.good G GD ∧ b.good G GD
  | .enum e => e.good G GD
  | .text e => e.good G GD
  | .cell _ => True
  | .cellE e => e.good G GD
end
structure Ctx (G : Str → Fn → Prop) (GD : Str → D → Prop) (N : List Str) (sc : Scope) (fnB : Str → Bool) (X : Cx) : Prop where
  n : X.N = N
  nd : N.Nodup
  sc : X.env.scope = sc
  calm : X.calm = true
  hu : X.A.units + 65 < cLine
  fn : ∀ x, fnB x = true → X.fn x = true
  call : ∀ x g, G x g → ∃ lv, CalOk X.prog X.w X.K X.mg X.base lv x g ∧ Room (lv + 2) X.A
  glob : ∀ x d, GD x d → ∃ u v, X.mg x = some u ∧ RelV v u ∧ ∀ hid ρ H, Rep X.K hid ρ H v d
  bi : ∀ x, x ∈ biNames → X.mg x = none
section
variable {G : Str → Fn → Prop} {GD : Str → D → Prop} {N : List Str} {sc scope : Scope} {fnB : Str → Bool} {X : Cx} {W : WX}
theorem Ctx.vis {i : Nat} {e : PySem.Expr} (C : Ctx G GD N sc fnB X) (h : varB N sc i e = true) : ∃ x p, e = .Name x p ∧ X.N[i]? = some x ∧ Vis X.env.scope x ∧ (x == ("__debug__" : Str)) = false ∧ (x == ("__classdict__" : Str)) = false := by
  unfold varB at h
  split at h
  · rename_i x p
    simp only [Bool.and_eq_true, decide_eq_true_eq, nmOk, Bool.not_eq_true'] at h
    obtain ⟨h1, h2, h3, h4⟩ := h
    refine ⟨x, p, rfl, by rw [C.n]; exact h1, ?_, h3, h4⟩
    rw [C.sc]
    unfold visB at h2
    unfold Vis
    split at h2 <;> first | exact .inl (by assumption) | exact .inr (.inl (by assumption)) | exact .inr (.inr (by assumption)) | cases h2
  · cases h
theorem Ctx.gl {x : Str} (C : Ctx G GD N sc fnB X) (h : glB sc x = true) : Gl X x := by
  unfold glB at h
  show X.env.scope.names.lookup x = _
  rw [C.sc]
  split at h
  · assumption
  · cases h
theorem nm_db {x : Str} (h : nmOk x = true) : (x == ("__debug__" : Str)) = false := by
  simp only [nmOk, Bool.and_eq_true, Bool.not_eq_true'] at h
  exact h.1
theorem Ctx.blk (C : Ctx G GD N sc fnB X) {own : List (Str × Nat)} (s : Shared) (H : Hp) (A : Addr) (cl : List (Str × Addr)) (fp : List Addr) : Ctx G GD N (relS scope sc) (blkFn scope) (X.blk s H scope (compEnvC scope cl A X.env) fp) :=
  ⟨C.n, C.nd, by rw [← C.sc]; rfl, C.calm, C.hu, fun x h => h, C.call, C.glob, C.bi⟩
theorem nameAt_ok {i : Nat} {e : PySem.Expr} (C : Ctx G GD N sc fnB X) (h : nameAt N sc fnB i e = true) : ∃ x p, e = .Name x p ∧ X.N[i]? = some x ∧ Loc X.env.scope x ∧ (X.fn x = true ∨ X.env.scope.names.lookup x = some .local) := by
  unfold nameAt at h
  split at h
  · rename_i x p
    simp only [Bool.and_eq_true, decide_eq_true_eq] at h
    refine ⟨x, p, rfl, by rw [C.n]; exact h.1, ?_⟩
    have h2 := h.2
    unfold locB at h2
    rw [← C.sc] at h2
    split at h2
    · rename_i q; exact ⟨.inl q, .inr q⟩
    · rename_i q; exact ⟨.inr q, .inl (C.fn x h2)⟩
    · cases h2
  · cases h
theorem namesAt_ok (C : Ctx G GD N sc fnB X) : ∀ {is : List Nat} {es : List PySem.Expr}, namesAt N sc fnB is es = true → es.length = is.length ∧
    (∀ (j : Nat) (x : Str) (q : Pos), es[j]? = some (.Name x q) → ∃ i, is[j]? = some i ∧ X.N[i]? = some x ∧ Loc X.env.scope x ∧ (X.fn x = true ∨ X.env.scope.names.lookup x = some .local)) ∧ (es.all fun e => match e with | .Name _ _ => true | _ => false) = true
  | [], [], _ => ⟨rfl, fun j x q h => by simp at h, rfl⟩
  | i :: is, e :: es, h => by
    simp only [namesAt, Bool.and_eq_true] at h
    obtain ⟨h1, h2⟩ := h
    obtain ⟨x, p, rfl, q1, q2, q3⟩ := nameAt_ok C h1
    obtain ⟨r1, r2, r3⟩ := namesAt_ok C h2
    refine ⟨by simp [r1], fun j y q hj => ?_, by simpa using r3⟩
    cases j with
    | zero =>
      simp at hj
      obtain ⟨rfl, rfl⟩ := hj
      exact ⟨i, rfl, q1, q2, q3⟩
    | succ j => simpa using r2 j y q (by simpa using hj)
  | [], _ :: _, h => by simp [namesAt] at h
  | _ :: _, [], h => by simp [namesAt] at h
theorem tg_ok {t : Tg} {e : PySem.Expr} (C : Ctx G GD N sc fnB X) (h : tgB N sc fnB t e = true) : PG X e (gOf X.K t) := by
  cases t with
  | name i =>
    obtain ⟨x, p, rfl, q1, q2, q3⟩ := nameAt_ok C (show nameAt N sc fnB i e = true from h)
    exact pg_name (by rw [C.n]; exact C.nd) q1 q2 q3
  | tup is =>
    simp only [tgB] at h
    split at h
    · obtain ⟨h1, h2, h3⟩ := namesAt_ok C h
      exact pg_tg C.calm (by rw [C.n]; exact C.nd) h1 h2 h3
    · cases h
theorem set_fold {iter : PySem.Expr} (h : notSet iter = true) (env : Env) : ∀ x, foldedSetIterable iter env x = pure x := by
  intro x
  cases iter <;> first | rfl | cases h
theorem set_marks {op : CmpOp} {e : PySem.Expr} (h : notSet e = true) : behindInMarks op e = false := by
  cases e <;> first | rfl | cases h
/-! ### what is checked is read so -/
structure EOk (X : Cx) (W : WX) (c : CE) (e : PySem.Expr) : Prop where
  pe : PE X e (tE X W c)
  pt : c.tst = true → PT X e (tT X W c)
structure EsOk (X : Cx) (W : WX) (cs : CEs) (es : List PySem.Expr) : Prop where
  pa : (es.all fun e => !isStar e) = true → PA X es (tA X W cs)
  an : ∀ pos, es ≠ [] → PE X (.BoolOp .And es pos) (tAndS X W cs)
  or : ∀ pos, es ≠ [] → PE X (.BoolOp .Or es pos) (tOrS X W cs)
  tan : ∀ pos, es ≠ [] → cs.tst = true → PW X (.BoolOp .And es pos) (tAndT X W cs)
  tor : ∀ pos, es ≠ [] → cs.tst = true → PW X (.BoolOp .Or es pos) (tOrT X W cs)
end
end MI
namespace MI
open PySem PySem.Spec L2
section
variable {G : Str → Fn → Prop} {GD : Str → D → Prop}
theorem eok_plain {X : Cx} {W : WX} {c : CE} {e : PySem.Expr} (h : PE X e (tE X W c)) (hp : ∀ env whole, isTrue e env whole = (do let v ← whole; standAt e.pos; holding [v] (truthy v))) : EOk X W c e := ⟨h, fun _ => t_val h (hp X.env)⟩
mutual
theorem snd_E : ∀ (c : CE) {N : List Str} {sc : Scope} {fnB : Str → Bool} {X : Cx} {W : WX} {e : PySem.Expr}, Ctx G GD N sc fnB X → Takes X W → chkE N sc c e = true → c.good G GD → EOk X W c e
  | .var i, N, sc, fnB, X, W, e, C, tk, h, g => by
    obtain ⟨x, p, rfl, q1, q2, q3, q4⟩ := C.vis (show varB N sc i e = true from h)
    exact eok_plain (s_var q1 q2 q3 q4) fun env => plain_test rfl
  | .frz i, N, sc, fnB, X, W, e, C, tk, h, g => by
    obtain ⟨x, p, rfl, q1, q2, q3, q4⟩ := C.vis (show varB N sc i e = true from h)
    exact eok_plain (s_frz q1 q2 q3 q4) fun env => plain_test rfl
  | .non, N, sc, fnB, X, W, e, C, tk, h, g => by
    unfold chkE at h
    split at h
    · exact eok_plain (s_const pe_non (fun _ _ => rfl) fun _ _ _ => .non) fun env => plain_test rfl
    · cases h
  | .bl b, N, sc, fnB, X, W, e, C, tk, h, g => by
    unfold chkE at h
    split at h
    · have q := beq_iff_eq.mp h
      subst q
      exact eok_plain (s_const pe_bl (fun _ _ => rfl) fun _ _ _ => .bl _) fun env => plain_test rfl
    · cases h
  | .int i, N, sc, fnB, X, W, e, C, tk, h, g => by
    unfold chkE at h
    split at h
    · have q := beq_iff_eq.mp h
      subst q
      exact eok_plain (s_const pe_int (fun _ _ => rfl) fun _ _ _ => .int _) fun env => plain_test rfl
    · cases h
  | .str s, N, sc, fnB, X, W, e, C, tk, h, g => by
    unfold chkE at h
    split at h
    · have q := beq_iff_eq.mp h
      subst q
      exact eok_plain (s_const pe_str (fun _ _ => rfl) fun _ _ _ => .str _) fun env => plain_test rfl
    · cases h
  | .glob x d, N, sc, fnB, X, W, e, C, tk, h, g => by
    unfold chkE at h
    split at h
    · obtain ⟨h1, h2⟩ := and2 h
      obtain ⟨h3, h4⟩ := and2 h2
      have q := of_decide_eq_true h1
      subst q
      obtain ⟨u, v, m1, m2, m3⟩ := C.glob _ _ (show GD x d from g)
      exact eok_plain (s_const (pe_glob (C.gl h3) m1 m2 (nm_db h4)) (fun _ _ => rfl) m3) fun env => plain_test rfl
    · cases h
  | .bin op a b, N, sc, fnB, X, W, e, C, tk, h, g => by
    unfold chkE at h
    split at h
    · obtain ⟨h1, h2⟩ := and2 h
      obtain ⟨h3, h4⟩ := and2 h2
      have q := of_decide_eq_true h1
      subst q
      exact eok_plain (s_bin (snd_E a C tk h3 g.1).pe (snd_E b C tk h4 g.2).pe) fun env => plain_test rfl
    · cases h
  | .neg a, N, sc, fnB, X, W, e, C, tk, h, g => by
    unfold chkE at h
    split at h
    · exact eok_plain (s_neg (snd_E a C tk h g).pe) fun env => plain_test rfl
    · cases h
  | .not a, N, sc, fnB, X, W, e, C, tk, h, g => by
    unfold chkE at h
    split at h
    · have q := snd_E a C tk h g
      exact ⟨s_not q.pe, fun t => t_not (q.pt t)⟩
    · cases h
  | .band es, N, sc, fnB, X, W, e, C, tk, h, g => by
    unfold chkE at h
    split at h
    · obtain ⟨h1, h2⟩ := and2 h
      rename_i ls p
      have hn : ls ≠ [] := by rintro rfl; cases h2
      have q := snd_Es es C tk h1 g
      exact ⟨q.an _ hn, fun t => (q.tan _ hn t).pt⟩
    · cases h
  | .bor es, N, sc, fnB, X, W, e, C, tk, h, g => by
    unfold chkE at h
    split at h
    · obtain ⟨h1, h2⟩ := and2 h
      rename_i ls p
      have hn : ls ≠ [] := by rintro rfl; cases h2
      have q := snd_Es es C tk h1 g
      exact ⟨q.or _ hn, fun t => (q.tor _ hn t).pt⟩
    · cases h
  | .cmp op a b, N, sc, fnB, X, W, e, C, tk, h, g => by
    unfold chkE at h
    split at h
    · obtain ⟨h1, h2⟩ := and2 h
      obtain ⟨h3, h4⟩ := and2 h2
      obtain ⟨h5, h6⟩ := and2 h3
      have q := of_decide_eq_true h1
      subst q
      have qa := (snd_E a C tk h5 g.1).pe
      have qb := (snd_E b C tk h6 g.2).pe
      exact ⟨s_cmp C.hu qa qb (set_marks h4), fun _ => t_cmp C.hu qa qb (set_marks h4)⟩
    · cases h
  | .chain op op' a b c, N, sc, fnB, X, W, e, C, tk, h, g => by
    unfold chkE at h
    split at h
    · obtain ⟨h1, h2⟩ := and2 h
      obtain ⟨h3, h4⟩ := and2 h1
      obtain ⟨h5, h6⟩ := and2 h2
      obtain ⟨h7, h8⟩ := and2 h5
      obtain ⟨h9, h10⟩ := and2 h7
      have q := of_decide_eq_true h3
      subst q
      have q := of_decide_eq_true h4
      subst q
      have qa := (snd_E a C tk h9 g.1).pe
      have qb := (snd_E b C tk h10 g.2.1).pe
      have qc := (snd_E c C tk h8 g.2.2).pe
      exact ⟨s_chain C.hu qa qb qc (set_marks h6), fun _ => t_chain C.hu qa qb qc (set_marks h6)⟩
    · cases h
  | .isN a, N, sc, fnB, X, W, e, C, tk, h, g => by
    unfold chkE at h
    split at h
    · have q := (snd_E a C tk h g).pe
      exact ⟨s_isN q, fun _ => t_isN q⟩
    · cases h
  | .notN a, N, sc, fnB, X, W, e, C, tk, h, g => by
    unfold chkE at h
    split at h
    · have q := (snd_E a C tk h g).pe
      exact ⟨s_notN q, fun _ => t_notN q⟩
    · cases h
  | .ite c a b, N, sc, fnB, X, W, e, C, tk, h, g => by
    unfold chkE at h
    split at h
    · obtain ⟨h1, h2⟩ := and2 h
      obtain ⟨h3, h4⟩ := and2 h1
      obtain ⟨h5, h6⟩ := and2 h2
      exact ⟨s_ite ((snd_E c C tk h4 g.1).pt h3) (snd_E a C tk h5 g.2.1).pe (snd_E b C tk h6 g.2.2).pe, fun t => by cases t⟩
    · cases h
  | .call x f es, N, sc, fnB, X, W, e, C, tk, h, g => by
    unfold chkE at h
    split at h
    · obtain ⟨h1, h2⟩ := and2 h
      obtain ⟨h3, h4⟩ := and2 h1
      obtain ⟨h5, h6⟩ := and2 h4
      obtain ⟨h7, h8⟩ := and2 h2
      have q := of_decide_eq_true h3
      subst q
      obtain ⟨lv, q1, q2⟩ := C.call _ _ g.1
      exact eok_plain (s_call q1 (q2.mono (Nat.le_add_right _ _)) tk (C.gl h5) (nm_db h6) ((snd_Es es C tk h7 g.2).pa h8) h8) fun env => plain_test rfl
    · cases h
  | .bi f es, N, sc, fnB, X, W, e, C, tk, h, g => by
    unfold chkE at h
    split at h
    · split at h
      · rename_i hb
        obtain ⟨h1, h2⟩ := and2 h
        obtain ⟨h3, h4⟩ := and2 h1
        obtain ⟨h7, h8⟩ := and2 h2
        have q := of_decide_eq_true h3
        subst q
        have hm : X.mg (biName f) = none := C.bi _ (by cases f <;> first | (cases hb; done) | decide +kernel)
        exact eok_plain (s_bi C.calm C.hu hb (C.gl h4) hm ((snd_Es es C tk h7 g).pa h8) h8) fun env => plain_test rfl
      · split at h
        · obtain ⟨h1, h2⟩ := and2 h
          obtain ⟨h3, h4⟩ := and2 h1
          obtain ⟨h5, h6⟩ := and2 h4
          obtain ⟨h7, h8⟩ := and2 h2
          obtain ⟨h9, h10⟩ := and2 h7
          obtain ⟨h11, h12⟩ := and2 h8
          obtain ⟨h13, h14⟩ := and2 h12
          have q := of_decide_eq_true h9
          subst q
          split at h14
          · rename_i T pT c
            exact eok_plain (s_isi h5 h3 (C.gl h10) (C.bi _ (by decide +kernel)) (C.gl h11) (C.bi _ (List.contains_iff_mem.mp h6)) (snd_E c C tk h14 g.1).pe (by simpa using h13)) fun env => plain_test rfl
          · cases h14
        · cases h
    · cases h
  | .tup es, N, sc, fnB, X, W, e, C, tk, h, g => by
    unfold chkE at h
    split at h
    · obtain ⟨h1, h2⟩ := and2 h
      obtain ⟨h3, h4⟩ := and2 h2
      exact eok_plain (s_tup (of_decide_eq_true h1) ((snd_Es es C tk h3 g).pa h4)) fun env => plain_test rfl
    · cases h
  | .new m l, N, sc, fnB, X, W, e, C, tk, h, g => by
    have q := snd_L l C tk (show chkL N sc l e = true from h) g
    exact eok_plain (s_new q.1) fun env => plain_test q.2
  | .dnew t, N, sc, fnB, X, W, e, C, tk, h, g => by
    unfold chkE at h
    split at h
    · cases t with
      | true => exact eok_plain s_dnewT fun env => plain_test rfl
      | false => exact eok_plain s_dnew fun env => plain_test rfl
    · cases h
  | .dcomp _ _ _ _ _ _, N, sc, fnB, X, W, e, C, tk, h, g => by simp [chkE] at h
  | .dgetd a b c, N, sc, fnB, X, W, e, C, tk, h, g => by
    unfold chkE at h
    split at h
    · obtain ⟨h1, h2⟩ := and2 h
      obtain ⟨h3, h4⟩ := and2 h1
      obtain ⟨h5, h6⟩ := and2 h4
      obtain ⟨h7, h8⟩ := and2 h6
      obtain ⟨h9, h10⟩ := and2 h2
      obtain ⟨h11, h12⟩ := and2 h9
      obtain ⟨h13, h14⟩ := and2 h12
      have q := of_decide_eq_true h3
      subst q
      exact eok_plain (s_dgetd C.hu (snd_E a C tk h5 g.1).pe (snd_E b C tk h7 g.2.1).pe (snd_E c C tk h8 g.2.2).pe (by simpa using h11) (by simpa using h13) (by simpa using h14) h10) fun env => plain_test rfl
    · cases h
  | .join a b, N, sc, fnB, X, W, e, C, tk, h, g => by
    unfold chkE at h
    split at h
    · obtain ⟨h1, h2⟩ := and2 h
      obtain ⟨h3, h4⟩ := and2 h1
      obtain ⟨h5, h6⟩ := and2 h4
      obtain ⟨h9, h10⟩ := and2 h2
      obtain ⟨h11, h12⟩ := and2 h9
      have q := of_decide_eq_true h3
      subst q
      exact eok_plain (s_join (snd_E a C tk h5 g.1).pe (snd_E b C tk h6 g.2).pe (by simpa using h11) (by simpa using h12) h10) fun env => plain_test rfl
    · cases h
  | .ix a b, N, sc, fnB, X, W, e, C, tk, h, g => by
    unfold chkE at h
    split at h
    · obtain ⟨h1, h2⟩ := and2 h
      obtain ⟨h3, h4⟩ := and2 h1
      exact eok_plain (s_ix C.hu (snd_E a C tk h3 g.1).pe (snd_E b C tk h4 g.2).pe (by simpa using h2)) fun env => plain_test rfl
    · cases h
  | .sl a lo hi, N, sc, fnB, X, W, e, C, tk, h, g => by
    unfold chkE at h
    split at h
    · obtain ⟨h1, h2⟩ := and2 h
      obtain ⟨h3, h4⟩ := and2 h2
      exact eok_plain (s_sl (snd_E a C tk h1 g.1).pe (snd_N lo C tk h3 g.2.1) (snd_N hi C tk h4 g.2.2)) fun env => plain_test rfl
    · cases h
theorem snd_Es : ∀ (cs : CEs) {N : List Str} {sc : Scope} {fnB : Str → Bool} {X : Cx} {W : WX} {es : List PySem.Expr}, Ctx G GD N sc fnB X → Takes X W → chkEs N sc cs es = true → cs.good G GD → EsOk X W cs es
  | .nil, N, sc, fnB, X, W, es, C, tk, h, g => by
    unfold chkEs at h
    split at h
    · exact ⟨fun _ => s_anil, fun _ n => (n rfl).elim, fun _ n => (n rfl).elim, fun _ n => (n rfl).elim, fun _ n => (n rfl).elim⟩
    · cases h
  | .cons c cs, N, sc, fnB, X, W, es, C, tk, h, g => by
    unfold chkEs at h
    split at h
    · rename_i l ls
      obtain ⟨h1, h2⟩ := and2 h
      have q := snd_E c C tk h1 g.1
      have qs := snd_Es cs C tk h2 g.2
      refine ⟨fun hs => ?_, fun pos _ => ?_, fun pos _ => ?_, fun pos _ t => ?_, fun pos _ t => ?_⟩
      · obtain ⟨s1, s2⟩ := and2 (show (!isStar l && ls.all fun e => !isStar e) = true by simpa using hs)
        exact s_acons q.pe (qs.pa s2) (by simpa using s1)
      · cases ls with
        | nil =>
          cases cs with
          | nil => exact s_and1 q.pe
          | cons c2 cs => simp [chkEs] at h2
        | cons l2 ls =>
          cases cs with
          | nil => simp [chkEs] at h2
          | cons c2 cs => exact s_andc q.pe (qs.an pos (by simp))
      · cases ls with
        | nil =>
          cases cs with
          | nil => exact s_or1 q.pe
          | cons c2 cs => simp [chkEs] at h2
        | cons l2 ls =>
          cases cs with
          | nil => simp [chkEs] at h2
          | cons c2 cs => exact s_orc q.pe (qs.or pos (by simp))
      · obtain ⟨t1, t2⟩ := and2 (show (c.tst && cs.tst) = true from t)
        cases ls with
        | nil =>
          cases cs with
          | nil => exact t_and1 (q.pt t1)
          | cons c2 cs => simp [chkEs] at h2
        | cons l2 ls =>
          cases cs with
          | nil => simp [chkEs] at h2
          | cons c2 cs => exact t_andc (q.pt t1) (qs.tan pos (by simp) t2)
      · obtain ⟨t1, t2⟩ := and2 (show (c.tst && cs.tst) = true from t)
        cases ls with
        | nil =>
          cases cs with
          | nil => exact t_or1 (q.pt t1)
          | cons c2 cs => simp [chkEs] at h2
        | cons l2 ls =>
          cases cs with
          | nil => simp [chkEs] at h2
          | cons c2 cs => exact t_orc (q.pt t1) (qs.tor pos (by simp) t2)
    · cases h
theorem snd_N : ∀ (c : CO) {N : List Str} {sc : Scope} {fnB : Str → Bool} {X : Cx} {W : WX} {o : Option PySem.Expr}, Ctx G GD N sc fnB X → Takes X W → chkN N sc c o = true → c.good G GD → PO X o (tO X W c)
  | .none, N, sc, fnB, X, W, o, C, tk, h, g => by
    unfold chkN at h
    split at h
    · exact s_none
    · cases h
  | .some e, N, sc, fnB, X, W, o, C, tk, h, g => by
    unfold chkN at h
    split at h
    · exact s_some (snd_E e C tk h g).pe
    · cases h
theorem snd_C : ∀ (c : CO) {N : List Str} {sc : Scope} {fnB : Str → Bool} {X : Cx} {o : List PySem.Expr}, Ctx G GD N sc fnB X → Takes X W0 → chkC N sc c o = true → c.good G GD → PTs X o (tCt X c)
  | .none, N, sc, fnB, X, o, C, tk, h, g => by
    unfold chkC at h
    split at h
    · exact pts_nil
    · cases h
  | .some e, N, sc, fnB, X, o, C, tk, h, g => by
    unfold chkC at h
    split at h
    · obtain ⟨h1, h2⟩ := and2 h
      exact pts_one ((snd_E e C tk h2 g).pt h1)
    · cases h
theorem snd_L : ∀ (l : CL) {N : List Str} {sc : Scope} {fnB : Str → Bool} {X : Cx} {W : WX} {e : PySem.Expr}, Ctx G GD N sc fnB X → Takes X W → chkL N sc l e = true → l.good G GD →
    PE X e (tL X W l) ∧ (match e with | .UnaryOp .Not _ _ => false | .BoolOp _ _ _ => false | .IfExp _ _ _ _ => false | .Compare _ _ _ _ => false | _ => true) = true
  | .disp es, N, sc, fnB, X, W, e, C, tk, h, g => by
    unfold chkL at h
    split at h
    · obtain ⟨h1, h2⟩ := and2 h
      obtain ⟨h3, h4⟩ := and2 h2
      exact ⟨s_disp (of_decide_eq_true h1) ((snd_Es es C tk h3 g).pa h4), rfl⟩
    · cases h
  | .comp own t it c elt, N, sc, fnB, X, W, e, C, tk, h, g => by
    unfold chkL at h
    split at h
    · obtain ⟨h1, h2⟩ := and2 h
      obtain ⟨h3, h4⟩ := and2 h1
      obtain ⟨h5, h6⟩ := and2 h3
      obtain ⟨h7, h8⟩ := and2 h4
      obtain ⟨h9, h10⟩ := and2 h2
      obtain ⟨h11, h12⟩ := and2 h9
      refine ⟨s_comp tk ⟨C.calm, by rw [C.n]; exact C.nd, fun W tk => snd_I it C tk h7 g.1, by rw [C.n, C.sc]; exact blkOk_by h5, fun i hi => ?_, fun s H A cl fp => tg_ok (C.blk (own := own) s H A cl fp) h8,
        fun s H A cl fp => snd_C c (C.blk (own := own) s H A cl fp) takes0 h11 g.2.1, fun s H A cl fp => (snd_E elt (C.blk (own := own) s H A cl fp) takes0 h12 g.2.2).pe, set_fold h10 _⟩, rfl⟩
      have := List.all_eq_true.mp h6 i hi
      exact of_decide_eq_true this
    · cases h
  | .sorted a, N, sc, fnB, X, W, e, C, tk, h, g => by
    unfold chkL at h
    split at h
    · obtain ⟨h1, h2⟩ := and2 h
      obtain ⟨h3, h4⟩ := and2 h1
      obtain ⟨h5, h6⟩ := and2 h2
      have q := of_decide_eq_true h3
      subst q
      exact ⟨s_sorted C.hu (C.gl h4) (C.bi _ (by decide +kernel)) (snd_E a C tk h5 g).pe (by simpa using h6), rfl⟩
    · cases h
  | .sortk a x f, N, sc, fnB, X, W, e, C, tk, h, g => by
    unfold chkL at h
    split at h
    · obtain ⟨h1, h2⟩ := and2 h
      obtain ⟨h3, h4⟩ := and2 h1
      obtain ⟨h5, h6⟩ := and2 h3
      obtain ⟨h7, h8⟩ := and2 h4
      obtain ⟨h9, h10⟩ := and2 h8
      obtain ⟨h11, h12⟩ := and2 h10
      obtain ⟨h13, h14⟩ := and2 h2
      have q := of_decide_eq_true h5
      subst q
      have q := of_decide_eq_true h7
      subst q
      have q := of_decide_eq_true h9
      subst q
      obtain ⟨lv, q1, q2⟩ := C.call _ _ g.2
      exact ⟨s_sortk C.calm C.hu (C.gl h6) (C.bi _ (by decide +kernel)) q1 q2 (C.gl h11) (nm_db h12) (snd_E a C tk h13 g.1).pe (by simpa using h14), rfl⟩
    · cases h
  | .list a, N, sc, fnB, X, W, e, C, tk, h, g => by
    unfold chkL at h
    split at h
    · obtain ⟨h1, h2⟩ := and2 h
      obtain ⟨h3, h4⟩ := and2 h1
      obtain ⟨h5, h6⟩ := and2 h2
      have q := of_decide_eq_true h3
      subst q
      exact ⟨s_list (C.gl h4) (C.bi _ (by decide +kernel)) (snd_E a C tk h5 g).pe (by simpa using h6), rfl⟩
    · cases h
  | .slice _ _ _, N, sc, fnB, X, W, e, C, tk, h, g => by simp [chkL] at h
  | .cat _ _, N, sc, fnB, X, W, e, C, tk, h, g => by simp [chkL] at h
  | .keys a, N, sc, fnB, X, W, e, C, tk, h, g => by
    unfold chkL at h
    split at h
    · obtain ⟨h1, h2⟩ := and2 h
      obtain ⟨h3, h4⟩ := and2 h1
      obtain ⟨h5, h6⟩ := and2 h4
      obtain ⟨h7, h8⟩ := and2 h2
      obtain ⟨h9, h10⟩ := and2 h7
      have q := of_decide_eq_true h3
      subst q
      have q := of_decide_eq_true h6
      subst q
      exact ⟨s_keys C.calm (C.gl h5) (C.bi _ (by decide +kernel)) (snd_E a C tk h9 g).pe (by simpa using h10) h8, rfl⟩
    · cases h
theorem snd_I : ∀ (it : CI) {N : List Str} {sc : Scope} {fnB : Str → Bool} {X : Cx} {W : WX} {tg e : PySem.Expr}, Ctx G GD N sc fnB X → Takes X W → chkI N sc it tg e = true → it.good G GD → PI X tg e (tI X W it)
  | .seq a, N, sc, fnB, X, W, tg, e, C, tk, h, g => i_seq (snd_E a C tk (show chkE N sc a e = true from h) g).pe
  | .rng1 a, N, sc, fnB, X, W, tg, e, C, tk, h, g => by
    unfold chkI at h
    split at h
    · obtain ⟨h1, h2⟩ := and2 h
      obtain ⟨h3, h4⟩ := and2 h1
      obtain ⟨h5, h6⟩ := and2 h2
      have q := of_decide_eq_true h3
      subst q
      exact i_rng1 (C.gl h4) (C.bi _ (by decide +kernel)) (snd_E a C tk h5 g).pe (by simpa using h6)
    · cases h
  | .rng2 a b, N, sc, fnB, X, W, tg, e, C, tk, h, g => by
    unfold chkI at h
    split at h
    · obtain ⟨h1, h2⟩ := and2 h
      obtain ⟨h3, h4⟩ := and2 h1
      obtain ⟨h5, h6⟩ := and2 h2
      obtain ⟨h7, h8⟩ := and2 h5
      obtain ⟨h9, h10⟩ := and2 h6
      have q := of_decide_eq_true h3
      subst q
      exact i_rng2 (C.gl h4) (C.bi _ (by decide +kernel)) (snd_E a C tk h7 g.1).pe (snd_E b C tk h9 g.2).pe (by simpa using h8) (by simpa using h10)
    · cases h
  | .enum a, N, sc, fnB, X, W, tg, e, C, tk, h, g => by
    unfold chkI at h
    split at h
    · split at h
      · obtain ⟨h1, h2⟩ := and2 h
        obtain ⟨h3, h4⟩ := and2 h1
        obtain ⟨h5, h6⟩ := and2 h2
        have q := of_decide_eq_true h3
        subst q
        exact i_enum (C.gl h4) (C.bi _ (by decide +kernel)) (snd_E a C tk h5 g).pe (by simpa using h6)
      · cases h
    · cases h
  | .text a, N, sc, fnB, X, W, tg, e, C, tk, h, g => i_text (snd_E a C tk (show chkE N sc a e = true from h) g).pe
  | .cellE a, N, sc, fnB, X, W, tg, e, C, tk, h, g => i_cellE (snd_E a C tk (show chkE N sc a e = true from h) g).pe
  | .cell i, N, sc, fnB, X, W, tg, e, C, tk, h, g => by
    obtain ⟨x, p, rfl, q1, q2, q3, q4⟩ := C.vis (show varB N sc i e = true from h)
    exact i_cell q1 q2 q3 q4
end
end
end MI
namespace MI
open PySem PySem.Spec L2
def bkS (sc : Scope) : ScopeKind := if sc.kind.isAnnotationScope then .function else sc.kind
def swB (sc scope : Scope) (t : Str) (p q : Pos) : Bool :=
  bkS sc == .function && sc.names.lookup t == some .local && p.line == q.line && !(scope.names.any fun (n, k) => n == t && (k == .local || k == .cell))
theorem swaps_lc {elt : PySem.Expr} {gens : List Comprehension} {scope : Scope} {lp p : Pos} {x : Str} {l : Nat} {env : Env} : swapsWith (.ListComp elt gens scope lp) (some (.Name x p)) l env = pure (swB env.scope scope x p lp) := rfl
def isLC : CE → Bool
  | .new _ (.comp _ _ _ _ _) => true
  | _ => false
def locL (sc : Scope) (x : Str) : Bool := match sc.names.lookup x with | some .local => true | _ => false
def asgB (sc : Scope) (c : CE) (x : Str) (p : Pos) (e : PySem.Expr) : Bool :=
  match e with
  | .ListComp _ _ scope lp => if swB sc scope x p lp then isLC c && locL sc x else true
  | .SetComp _ _ _ _ => false
  | .DictComp _ _ _ _ _ => false
  | _ => true
/-- both names of a pair are stored, the second first -/
def parB (sc : Scope) (x y : Str) (px py : Pos) (ea eb : PySem.Expr) : Bool :=
  ((bkS sc == .function) && (px.line == py.line)) && ((!(x == y) && !([ea, eb].all (foldedForSure 8))) && !([ea, eb].all (constantsAlone 8)))
mutual
def chkS (N : List Str) (sc : Scope) (fnB : Str → Bool) : CS → PySem.Stmt → Bool
  | .asg t c, st => (match t with
    | .name i => (match st with
      | .Assign [.Name x p] e _ => (nameAt N sc fnB i (.Name x p) && chkE N sc c e) && asgB sc c x p e
      | _ => false)
    | .tup is => (match st with
      | .Assign [.Tuple es k tp] e _ => (namesAt N sc fnB is es && chkE N sc c e) && (!isComp e && !isTup e)
      | _ => false))
  | .par i j a b, st => (match st with
    | .Assign [.Tuple [.Name x px, .Name y py] _ _] (.Tuple [ea, eb] _ _) _ => ((decide (N[i]? = some x) && decide (N[j]? = some y)) && (decide (i ≠ j) && (locL sc x && locL sc y))) && (((chkE N sc a ea && chkE N sc b eb) && (!isStar ea && !isStar eb)) && parB sc x y px py ea eb)
    | _ => false)
  | .put o i e, st => (match st with
    | .Assign [.Subscript eo ei _] ee _ => ((chkE N sc o eo && chkE N sc i ei) && chkE N sc e ee) && ((!isComp ee && !isTup ee) && !isSlice ei)
    | _ => false)
  | .putp o i p j a b, st => (match st with
    | .Assign [.Tuple [.Subscript eo ei _, .Subscript ep ej _] _ _] (.Tuple [ea, eb] _ _) _ => (((chkE N sc o eo && chkE N sc i ei) && (chkE N sc p ep && chkE N sc j ej)) && ((chkE N sc a ea && chkE N sc b eb) && (!isStar ea && !isStar eb))) && (!isSlice ei && !isSlice ej)
    | _ => false)
  | .aug i e, st => (match st with
    | .AugAssign t .Add ee _ => nameAt N sc fnB i t && chkE N sc e ee
    | _ => false)
  | .drop e, st => (match st with
    | .Expr ee _ => chkE N sc e ee && !isComp ee
    | _ => false)
  | .app o e, st => (match st with
    | .Expr (.Call (.Attribute eo at_ apos) [ee] [] cpos) _ => ((decide (at_ = ("append" : Str)) && chkE N sc o eo) && chkE N sc e ee) && ((!isStar ee && !isCall eo) && (apos.endLine == cpos.line))
    | _ => false)
  | .rem _ _, _ => false
  | .ifs c a b, st => (match st with
    | .If ec as bs _ => (c.tst && chkE N sc c ec) && (chkSs N sc fnB a as && chkSs N sc fnB b bs)
    | _ => false)
  | .for_ t it b, st => (match st with
    | .For tg iter body [] _ => (chkI N sc it tg iter && tgB N sc fnB t tg) && (chkSs N sc fnB b body && notSet iter)
    | _ => false)
  | .while_ _ c b, st => (match st with
    | .While ec body [] _ => (c.tst && chkE N sc c ec) && chkSs N sc fnB b body
    | _ => false)
  | .ret e, st => (match st with
    | .Return (some ee) _ => chkE N sc e ee
    | _ => false)
  | .retN, st => (match st with
    | .Return none _ => true
    | _ => false)
  | .pass, st => (match st with
    | .Pass _ => true
    | .Expr (.Constant (.str _) _ _) _ => true
    | _ => false)
  | .fail, _ => true
def chkSs (N : List Str) (sc : Scope) (fnB : Str → Bool) : CSs → List PySem.Stmt → Bool
  | .nil, sts => (match sts with | [] => true | _ => false)
  | .cons s ss, sts => (match sts with | st :: sts => chkS N sc fnB s st && chkSs N sc fnB ss sts | _ => false)
  | .frz _ ss, sts => chkSs N sc fnB ss sts
end
mutual
def CS.good (G : Str → Fn → Prop) (GD : Str → D → Prop) : CS → Prop
  | .asg _ e => e.good G GD
  | .par _ _ a b => a.good G GD ∧ b.good G GD
  | .put o i e => o.good G GD ∧ i.good G GD ∧ e.good G GD
  | .putp o i p j a b => (o.good G GD ∧ i.good G GD) ∧ (p.good G GD ∧ j.good G GD) ∧ a.good G GD ∧ b.good G GD
  | .aug _ e => e.good G GD
  | .drop e => e.good G GD
  | .app o e => o.good G GD ∧ e.good G GD
  | .rem o e => o.good G GD ∧ e.good G GD
  | .ifs c a b => c.good G GD ∧ a.good G GD ∧ b.good G GD
  | .for_ _ it b => it.good G GD ∧ b.good G GD
  | .while_ _ c b => c.good G GD ∧ b.good G GD
  | .ret e => e.good G GD
  | .retN => True
  | .pass => True
  | .fail => True
def CSs.good (G : Str → Fn → Prop) (GD : Str → D → Prop) : CSs → Prop
  | .nil => True
  | .cons s ss => s.good G GD ∧ ss.good G GD
  | .frz _ ss => ss.good G GD
end
section
variable {G : Str → Fn → Prop} {GD : Str → D → Prop} {N : List Str} {sc : Scope} {fnB : Str → Bool} {X : Cx} {W : WX}
theorem snd_comp {own t it c elt m el tg iter ifs scope pos} (C : Ctx G GD N sc fnB X) (tk : Takes X W) (h : chkE N sc (.new m (.comp own t it c elt)) (.ListComp el [⟨tg, iter, ifs, 0⟩] scope pos) = true) (g : CE.good G GD (.new m (.comp own t it c elt))) :
    Comp X scope own t it c elt tg iter el ifs := by
  have h : chkL N sc (.comp own t it c elt) (.ListComp el [⟨tg, iter, ifs, 0⟩] scope pos) = true := h
  have g : CL.good G GD (.comp own t it c elt) := g
  unfold chkL at h
  obtain ⟨h1, h2⟩ := and2 h
  obtain ⟨h3, h4⟩ := and2 h1
  obtain ⟨h5, h6⟩ := and2 h3
  obtain ⟨h7, h8⟩ := and2 h4
  obtain ⟨h9, h10⟩ := and2 h2
  obtain ⟨h11, h12⟩ := and2 h9
  refine ⟨C.calm, by rw [C.n]; exact C.nd, fun W tk => snd_I it C tk h7 g.1, by rw [C.n, C.sc]; exact blkOk_by h5, fun i hi => ?_, fun s H A cl fp => tg_ok (C.blk (own := own) s H A cl fp) h8,
        fun s H A cl fp => snd_C c (C.blk (own := own) s H A cl fp) takes0 h11 g.2.1, fun s H A cl fp => (snd_E elt (C.blk (own := own) s H A cl fp) takes0 h12 g.2.2).pe, set_fold h10 _⟩
  have := List.all_eq_true.mp h6 i hi
  exact of_decide_eq_true this
theorem locL_ok {x : Str} (C : Ctx G GD N sc fnB X) (h : locL sc x = true) : X.env.scope.names.lookup x = some .local := by
  unfold locL at h
  rw [C.sc]
  split at h
  · assumption
  · cases h
theorem par_ok {x y : Str} {px py pt pt2 : Pos} {kt k2 : Nat} {ea eb : PySem.Expr} {env : Env} (hs : env.scope = sc) (hx : env.scope.names.lookup x = some .local) (hy : env.scope.names.lookup y = some .local) (sa : isStar ea = false) (sb : isStar eb = false) (h : parB sc x y px py ea eb = true) :
    swappedStores [.Tuple [.Name x px, .Name y py] kt pt] (.Tuple [ea, eb] k2 pt2) env = pure (some [x, y]) := by
  unfold parB at h
  obtain ⟨h1, h2⟩ := and2 h
  obtain ⟨h3, h4⟩ := and2 h1
  obtain ⟨h5, h6⟩ := and2 h2
  obtain ⟨h7, h8⟩ := and2 h5
  have hb : env.blockKind = .function := by
    have : bkS env.scope = .function := by rw [hs]; exact beq_iff_eq.mp h3
    exact this
  have hl : px.line = py.line := beq_iff_eq.mp h4
  have hne : (x == y) = false := by simpa using h7
  have hne' : x ≠ y := by simpa using hne
  have h8' : ([ea, eb].all (foldedForSure 8)) = false := by simpa only [Bool.not_eq_true'] using h8
  have h6' : ([ea, eb].all (constantsAlone 8)) = false := by simpa only [Bool.not_eq_true'] using h6
  have st : ([ea, eb].any fun | .Starred .. => true | _ => false) = false := by
    cases ea <;> first | (cases sa; done) | (cases eb <;> first | (cases sb; done) | rfl)
  have kx : (env.kindOf x == some NameKind.local) = true := by
    show (env.scope.names.lookup x == _) = true
    rw [hx]; rfl
  have ky : (env.kindOf y == some NameKind.local) = true := by
    show (env.scope.names.lookup y == _) = true
    rw [hy]; rfl
  have q : List.eraseDups [x, y] = [x, y] := by
    have hyx : (y == x) = false := by
      simpa using fun e : y = x => hne' e.symm
    simp [List.eraseDups_cons, hyx]
  unfold swappedStores
  simp only [PySem.Expr.pos, List.length_cons, List.length_nil, hb, List.head?_cons, Option.map_some, Option.getD_some, List.filterMap_cons, kx, ky, hl, List.filterMap_nil, q, beq_self_eq_true, Bool.and_true, if_true]
  simp only [h8', h6']
  rw [if_neg (by decide), if_neg (by rw [Bool.not_eq_true]; exact st), if_neg (by decide)]
  rfl
end
section
variable {G : Str → Fn → Prop} {GD : Str → D → Prop}
mutual
theorem snd_S : ∀ (s : CS) {N : List Str} {sc : Scope} {fnB : Str → Bool} {X : Cx} {W : WX} {st : PySem.Stmt}, Ctx G GD N sc fnB X → Takes X W → PassesOwn (model X.prog X.w) X.A X.env X.xe → chkS N sc fnB s st = true → s.good G GD → PS X st (tS X W (ex s))
  | .asg t c, N, sc, fnB, X, W, st, C, tk, po, h, g => by
    have hN : X.N.Nodup := by rw [C.n]; exact C.nd
    cases t with
    | name i =>
      unfold chkS at h
      dsimp only at h
      split at h
      · rename_i x p e pos
        obtain ⟨h1, h2⟩ := and2 h
        obtain ⟨h3, h4⟩ := and2 h1
        obtain ⟨x', p', e', q1, q2, q3⟩ := nameAt_ok C h3
        cases e'
        have he := (snd_E c C tk h4 g).pe
        by_cases hc : isComp e = false
        · exact s_set hN q1 q2 q3 he (swaps_no hc)
        · cases e with
          | ListComp elt gens scope lp =>
            by_cases hsw : swB sc scope x p lp = true
            · have h2' : (isLC c && locL sc x) = true := by
                have h2 : (if swB sc scope x p lp = true then isLC c && locL sc x else true) = true := h2
                rw [if_pos hsw] at h2
                exact h2
              obtain ⟨h5, h6⟩ := and2 h2'
              cases c with
              | new m l =>
                cases l with
                | comp own t it co ce =>
                  have h4' : chkL N sc (.comp own t it co ce) (.ListComp elt gens scope lp) = true := h4
                  unfold chkL at h4'
                  split at h4'
                  · rename_i hh
                    cases hh
                    refine s_setC tk q1 (locL_ok C h6) ?_ (snd_comp C tk h4 g)
                    rw [swaps_lc, C.sc, hsw]
                  · cases h4'
                | _ => cases h5
              | _ => cases h5
            · refine s_set hN q1 q2 q3 he ?_
              rw [swaps_lc, C.sc]
              rw [show swB sc scope x p lp = false by simpa using hsw]
          | SetComp _ _ _ _ => cases h2
          | DictComp _ _ _ _ _ => cases h2
          | _ => exact absurd rfl hc
      · cases h
    | tup is =>
      unfold chkS at h
      dsimp only at h
      split at h
      · rename_i es k tp e pos
        obtain ⟨h1, h2⟩ := and2 h
        obtain ⟨h3, h4⟩ := and2 h1
        obtain ⟨h5, h6⟩ := and2 h2
        exact s_unpack (tg_ok (t := .tup is) C (show tgB N sc fnB (.tup is) (.Tuple es k tp) = true from h3)) (snd_E c C tk h4 g).pe (by simpa using h5) (by simpa using h6)
      · cases h
  | .par i j a b, N, sc, fnB, X, W, st, C, tk, po, h, g => by
    unfold chkS at h
    split at h
    · rename_i x px y py k0 p0 ea eb k1 p1 p2
      obtain ⟨h1, h2⟩ := and2 h
      obtain ⟨h3, h4⟩ := and2 h1
      obtain ⟨h5, h6⟩ := and2 h2
      obtain ⟨h7, h8⟩ := and2 h3
      obtain ⟨h9, h10⟩ := and2 h4
      obtain ⟨h11, h12⟩ := and2 h10
      obtain ⟨h13, h14⟩ := and2 h5
      obtain ⟨h15, h16⟩ := and2 h13
      obtain ⟨h17, h18⟩ := and2 h14
      have sa : isStar ea = false := by simpa using h17
      have sb : isStar eb = false := by simpa using h18
      exact s_par C.calm (by rw [C.n]; exact C.nd) (by rw [C.n]; exact of_decide_eq_true h7) (by rw [C.n]; exact of_decide_eq_true h8) (of_decide_eq_true h9) (locL_ok C h11) (locL_ok C h12)
        (snd_E a C tk h15 g.1).pe (snd_E b C tk h16 g.2).pe sa sb (par_ok C.sc (locL_ok C h11) (locL_ok C h12) sa sb h6)
    · cases h
  | .put o i e, N, sc, fnB, X, W, st, C, tk, po, h, g => by
    unfold chkS at h
    split at h
    · obtain ⟨h1, h2⟩ := and2 h
      obtain ⟨h3, h4⟩ := and2 h1
      obtain ⟨h5, h6⟩ := and2 h2
      obtain ⟨h7, h8⟩ := and2 h3
      obtain ⟨h9, h10⟩ := and2 h5
      exact s_put C.hu (snd_E o C tk h7 g.1).pe (snd_E i C tk h8 g.2.1).pe (snd_E e C tk h4 g.2.2).pe (by simpa using h9) (by simpa using h10) (by simpa using h6)
    · cases h
  | .putp o i p j a b, N, sc, fnB, X, W, st, C, tk, po, h, g => by
    unfold chkS at h
    split at h
    · obtain ⟨h1, h2⟩ := and2 h
      obtain ⟨h3, h4⟩ := and2 h1
      obtain ⟨h5, h6⟩ := and2 h3
      obtain ⟨h7, h8⟩ := and2 h5
      obtain ⟨h9, h10⟩ := and2 h6
      obtain ⟨h11, h12⟩ := and2 h4
      obtain ⟨h13, h14⟩ := and2 h11
      obtain ⟨h15, h16⟩ := and2 h12
      obtain ⟨h17, h18⟩ := and2 h2
      exact s_putp C.calm C.hu (snd_E o C tk h7 g.1.1).pe (snd_E i C tk h8 g.1.2).pe (snd_E p C tk h9 g.2.1.1).pe (snd_E j C tk h10 g.2.1.2).pe (snd_E a C tk h13 g.2.2.1).pe (snd_E b C tk h14 g.2.2.2).pe
        (by simpa using h15) (by simpa using h16) (by simpa using h17) (by simpa using h18)
    · cases h
  | .aug i e, N, sc, fnB, X, W, st, C, tk, po, h, g => by
    unfold chkS at h
    split at h
    · obtain ⟨h1, h2⟩ := and2 h
      obtain ⟨x', p', rfl, q1, q2, q3⟩ := nameAt_ok C h1
      exact s_aug (by rw [C.n]; exact C.nd) q1 q2 q3 (snd_E e C tk h2 g).pe
    · cases h
  | .drop e, N, sc, fnB, X, W, st, C, tk, po, h, g => by
    unfold chkS at h
    split at h
    · obtain ⟨h1, h2⟩ := and2 h
      exact s_drop (snd_E e C tk h1 g).pe (by simpa using h2)
    · cases h
  | .app o e, N, sc, fnB, X, W, st, C, tk, po, h, g => by
    unfold chkS at h
    split at h
    · obtain ⟨h1, h2⟩ := and2 h
      obtain ⟨h3, h4⟩ := and2 h1
      obtain ⟨h5, h6⟩ := and2 h2
      obtain ⟨h7, h8⟩ := and2 h3
      obtain ⟨h9, h10⟩ := and2 h5
      have q := of_decide_eq_true h7
      subst q
      exact s_app (snd_E o C tk h8 g.1).pe (snd_E e C tk h4 g.2).pe (by simpa using h9) (by simpa using h10) h6
    · cases h
  | .rem _ _, N, sc, fnB, X, W, st, C, tk, po, h, g => by simp [chkS] at h
  | .ifs c a b, N, sc, fnB, X, W, st, C, tk, po, h, g => by
    unfold chkS at h
    split at h
    · obtain ⟨h1, h2⟩ := and2 h
      obtain ⟨h3, h4⟩ := and2 h1
      obtain ⟨h5, h6⟩ := and2 h2
      exact s_ifs ((snd_E c C tk h4 g.1).pt h3) (snd_Ss a C tk po h5 g.2.1) (snd_Ss b C tk po h6 g.2.2)
    · cases h
  | .for_ t it b, N, sc, fnB, X, W, st, C, tk, po, h, g => by
    unfold chkS at h
    split at h
    · obtain ⟨h1, h2⟩ := and2 h
      obtain ⟨h3, h4⟩ := and2 h1
      obtain ⟨h5, h6⟩ := and2 h2
      exact s_for po C.calm (snd_I it C tk h3 g.1) (tg_ok C h4) (snd_Ss b C tk po h5 g.2) (set_fold h6 _)
    · cases h
  | .while_ n c b, N, sc, fnB, X, W, st, C, tk, po, h, g => by
    unfold chkS at h
    split at h
    · obtain ⟨h1, h2⟩ := and2 h
      obtain ⟨h3, h4⟩ := and2 h1
      exact s_while po ((snd_E c C tk h4 g.1).pt h3) (snd_Ss b C tk po h2 g.2)
    · cases h
  | .ret e, N, sc, fnB, X, W, st, C, tk, po, h, g => by
    unfold chkS at h
    split at h
    · exact s_ret (snd_E e C tk h g).pe
    · cases h
  | .retN, N, sc, fnB, X, W, st, C, tk, po, h, g => by
    unfold chkS at h
    split at h
    · exact s_retN
    · cases h
  | .pass, N, sc, fnB, X, W, st, C, tk, po, h, g => by
    unfold chkS at h
    split at h
    · exact s_pass
    · exact s_doc
    · cases h
  | .fail, N, sc, fnB, X, W, st, C, tk, po, h, g => ⟨fun pins s σ H D I hw => by
    obtain ⟨hid, ρ, env, S, r, re, p⟩ := hw
    exact (show False from p).elim⟩
theorem snd_Ss : ∀ (ss : CSs) {N : List Str} {sc : Scope} {fnB : Str → Bool} {X : Cx} {W : WX} {sts : List PySem.Stmt}, Ctx G GD N sc fnB X → Takes X W → PassesOwn (model X.prog X.w) X.A X.env X.xe → chkSs N sc fnB ss sts = true → ss.good G GD → PSs X sts (tS X W (exs ss))
  | .nil, N, sc, fnB, X, W, sts, C, tk, po, h, g => by
    unfold chkSs at h
    split at h
    · exact b_nil
    · cases h
  | .cons s ss, N, sc, fnB, X, W, sts, C, tk, po, h, g => by
    unfold chkSs at h
    split at h
    · obtain ⟨h1, h2⟩ := and2 h
      exact b_cons (snd_S s C tk po h1 g.1) (snd_Ss ss C tk po h2 g.2)
    · cases h
  | .frz i ss, N, sc, fnB, X, W, sts, C, tk, po, h, g => b_frz (snd_Ss ss C tk po (show chkSs N sc fnB ss sts = true from h) g)
end
end
end MI
namespace MI
open PySem PySem.Spec L2
/-! ### a def by its text -/
def GlobOk (K : PySem.W.Frag) (mg : Str → Option Value) (x : Str) (d : D) : Prop := ∃ u v, mg x = some u ∧ RelV v u ∧ ∀ hid ρ H, Rep K hid ρ H v d
section
variable {P : Program} {w : World} {K : PySem.W.Frag} {mg : Str → Option Value} {base : Heap}
theorem CalOk.up {lv lv' : Nat} {x : Str} {g : Fn} (C : CalOk P w K mg base lv x g) (h : lv ≤ lv') : CalOk P w K mg base lv' x g := by
  obtain ⟨k, f, fd, ps, h1, h2, h3, h4, h5⟩ := C.ex
  exact ⟨k, f, fd, ps, h1, h2, h3, h4, Nat.le_trans h5 h⟩
open PyProof.Rows in
theorem ctx_of {lv : Nat} {N : List Str} {qual : Str} {sc : Scope} {f : Addr} {cdv : Value} {A : Around} {outer : List Env} {s : Shared} {H : Hp} {E : XK} {GD : Str → D → Prop} (nd : N.Nodup) (hb : ∀ x, x ∈ biNames → mg x = none) (hG : ∀ x d, GD x d → GlobOk K mg x d)
    (hr : Room (lv + 2) (A.deeper (envOfC qual sc s.heap.objs.size f cdv))) :
    Ctx (CalOk P w K mg base lv) GD N sc (fun _ => true) (cxOf (L2.CX P w) P w K mg base N qual sc f cdv A outer s H E) :=
  ⟨rfl, nd, rfl, rfl, by have := hr.un; show (A.deeper (envOfC qual sc s.heap.objs.size f cdv)).units + 65 < _; omega, fun _ _ => rfl, fun x g h => ⟨lv, h, hr⟩, fun x d h => hG x d h, hb⟩
theorem body_ok {x qual : Str} {st : PySem.Stmt} {f : Addr} {fd : FuncData} {N ps : List Str} {lv : Nat} {b : CSs} {GD : Str → D → Prop} {kws : List (Str × V)} {dvs : List V} (F : FunD K x qual (defArgs st) (defBody st) (defScope st) dvs kws f fd) (S : FnScope N ps (defScope st)) (hb : ∀ x, x ∈ biNames → mg x = none) (hG : ∀ x d, GD x d → GlobOk K mg x d)
    (hc : chkSs N (defScope st) (fun _ => true) b (defBody st) = true) (hg : b.good (CalOk P w K mg base lv) GD) : FnOk P w K mg base (L2.CX P w) (lv + 3) f fd ps (spOf K mg (fnOf ps.length N.length b)) :=
  fn_ok F S fun cdv A outer s H E hr => snd_Ss b (ctx_of S.nd hb hG hr) (takes_of rfl rfl rfl rfl) (passes_of rfl) hc hg
/-- what is known of a def -/
structure DefK (K : PySem.W.Frag) (mg : Str → Option Value) (x : Str) (st : PySem.Stmt) (ps : List Str) (f : Addr) (fd : FuncData) : Prop where
  fn : FunD K x x (defArgs st) (defBody st) (defScope st) [] [] f fd
  mgf : mg x = some (.ref f)
  bd : Binds K fd ps []
theorem def_ok {x : Str} {st : PySem.Stmt} {f : Addr} {fd : FuncData} {N ps : List Str} {lv : Nat} {b : CSs} {GD : Str → D → Prop} (F : DefK K mg x st ps f fd) (S : FnScope N ps (defScope st)) (hb : ∀ x, x ∈ biNames → mg x = none) (hG : ∀ x d, GD x d → GlobOk K mg x d)
    (hc : chkSs N (defScope st) (fun _ => true) b (defBody st) = true) (hg : b.good (CalOk P w K mg base lv) GD) : CalOk P w K mg base (lv + 3) x (fnOf ps.length N.length b) :=
  ⟨lv + 3, f, fd, ps, body_ok F.fn S hb hG hc hg, F.mgf, F.fn.kp, F.bd, Nat.le_refl _⟩
/-- a reading that says no more -/
theorem CalOk.imp {lv : Nat} {x : Str} {g g' : Fn} (C : CalOk P w K mg base lv x g) (h : ∀ ds S, g' ds S ≠ .stuck → g' ds S = g ds S) : CalOk P w K mg base lv x g' := by
  obtain ⟨k, f, fd, ps, h1, h2, h3, h4, h5⟩ := C.ex
  refine ⟨k, f, fd, ps, h1.imp fun vs H Q E ⟨hid, ρ, S, ds, r, rl, p⟩ => ⟨hid, ρ, S, ds, r, rl, ?_⟩, h2, h3, h4, h5⟩
  have q : g' ds S ≠ .stuck := fun z => by rw [z] at p; exact p.elim
  rw [← h ds S q]
  exact p
/-! ### the law's own promise -/
theorem repl_ints {hid : List Addr} {ρ : Rho} {H : Hp} : ∀ ns : List Int, RepL K hid ρ H (ns.map V.int) (ns.map D.int)
  | [] => .nil
  | n :: ns => .cons (.int n) (repl_ints ns)
/-- the law's def answers True: by its reading at the script -/
theorem law_ok {k : Nat} {f : Addr} {fd : FuncData} {ps : List Str} {g : Fn} (F : FnOk P w K mg base (L2.CX P w) k f fd ps (spOf K mg g)) (hl : ps.length = 1)
    (h : ∀ ns : List Int, ns.length ≤ 63 → ∃ S, g [.scr (ns.map D.int)] [] = .ok (.bl true) S) :
    FnOk P w K mg base (L2.CX P w) k f fd ps (fun vs H Q E => ∃ (a : Addr) (ns : List Int), vs = [.ref a] ∧ ns.length ≤ 63 ∧ Only H ∧ SqL K H a (ns.map V.int) ∧ Q = (fun v _ => v = .bl true)) :=
  F.imp fun vs H Q E ⟨a, ns, e1, e2, e3, e4, e5⟩ => by
    subst e1 e5
    obtain ⟨S, hS⟩ := h ns e2
    have R : RelS K [] [] H mg [] := ⟨rfl, fun _ _ _ h => by simp at h, fun n c h => by simp at h, fun a h => by simp at h⟩
    refine ⟨[], [], [], [.scr (ns.map D.int)], R, .cons (.scr ?_ (repl_ints ns)) .nil, ?_⟩
    · rcases e4 with (q | ⟨o, q⟩) | q
      · rcases e3 a with z | ⟨o, xs, z⟩
        · rw [q] at z; cases z
        · rw [q] at z; cases z
      · exact .inr ⟨o, q, by simp, by simp⟩
      · exact .inl (.inr q)
    · rw [hS]
      intro ρ' H' _ _ v r
      cases r
      rfl
theorem cx_no {H : Hp} {s : Shared} {e : Value} {s' : Shared} (h : L2.CX P w [] H s (fun _ _ _ => False) e s') : False := by
  obtain ⟨_, _, _, _, _, _, _, _, _, _, _, _, z⟩ := h
  exact z.elim
end
end MI
namespace MI
open PySem PySem.Spec L2 PyProof.Rows
/-- a law's end: the reading of its def answers True at each script -/
theorem walk_mi {l : PySem.W.OpenLaw} {k : Nat} {q : Program} {loose : List Str} {XP : (Str → Option Value) → Heap → Prop} {YP : World → Heap → Prop} {d : DefRec} {x : Str} {g : Fn}
    (hn : l.most = some 63) (hdf : d.params.defaults = []) (hr : Room k callerA) (h : ∀ ns : List Int, ns.length ≤ 63 → ∃ S, g [.scr (ns.map D.int)] [] = .ok (.bl true) S)
    (F : ∀ (w : World) (mg : Str → Option Value) (fa : Addr) (hp : Heap), YP w hp → hp.Ns mainGlobals mg → mg d.name = some (.ref fa) →
      ∃ (K : PySem.W.Frag) (fd : FuncData), K.In hp ∧ (∀ (s : Shared) (u : Value), BindsTo s fd ⟨[u], []⟩ [(x, u)]) ∧
        ∀ base : Heap, K.In base → base.Ns mainGlobals mg → FnOk l.prog w K mg base (L2.CX l.prog w) k fa fd [x] (spOf K mg g)) :
    PySem.W.WalkO q loose XP YP l.row.toRowW d [] (fun f vs => PySem.call f vs) := by
  refine Att.attach_call hn hdf fun w t₀ t₁ mg mb fa o pm cd doc a us ns T1 Y1 w1 w2 w3 hm ho hi hln hgn => ?_
  obtain ⟨K, fd, KX, hb, hF⟩ := F w mg fa _ Y1 T1.T.g hm
  exact law_call KX T1.T.g T1.T.b T1.T.builtins T1.T.nolimit hgn ho hi (Nat.le_trans hln (by decide)) hr (fun base b1 b2 => law_ok (hF base b1 b2) rfl h) hb
    (fun H hO hS => ⟨a, ns, rfl, hln, hO, hS, rfl⟩) fun H e t' z => cx_no z
/-! ### what the head tells -/
/-- a whole number or a text of the module -/
inductive Gv where
  | i (n : Int)
  | s (z : Str)
deriving DecidableEq
def Gv.fa (x : Str) : Gv → He.Fa
  | .i n => .int x n
  | .s z => .str x z
def Gv.d : Gv → D
  | .i n => .int n
  | .s z => .str z
def fa0 (xs : List Str) (is : List (Str × Gv)) : List He.Fa := xs.map He.Fa.glo ++ (biNames.map He.Fa.free ++ is.map fun p => p.2.fa p.1)
theorem fact_mem {xs : List Str} {is : List (Str × Gv)} {fn : List He.DefD} {K : PySem.W.Frag} (c : He.SaysD (fa0 xs is) fn K) {f : He.Fa} (h : f ∈ fa0 xs is) : f.ok K = true := by
  obtain ⟨i, hl, hi⟩ := List.mem_iff_getElem.mp h
  exact c.fact i (f := f) (by rw [List.getElem?_eq_getElem hl, hi])
theorem fact_glo {xs : List Str} {is : List (Str × Gv)} {fn : List He.DefD} {K : PySem.W.Frag} {h : Heap} {mg : Str → Option Value} (X : K.In h) (G : h.Ns mainGlobals mg) (c : He.SaysD (fa0 xs is) fn K) {i : Nat} {x : Str} (hi : xs[i]? = some x) : mg x = some (.ref (He.ga K x)) :=
  He.glo_ok X G (fact_mem c (List.mem_append.mpr (.inl (List.mem_map.mpr ⟨x, List.mem_of_getElem? hi, rfl⟩))))
theorem fact_free {xs : List Str} {is : List (Str × Gv)} {fn : List He.DefD} {K : PySem.W.Frag} {h : Heap} {mg : Str → Option Value} (X : K.In h) (G : h.Ns mainGlobals mg) (c : He.SaysD (fa0 xs is) fn K) : ∀ x, x ∈ biNames → mg x = none := fun x hx =>
  He.free_ok X G (fact_mem c (List.mem_append.mpr (.inr (List.mem_append.mpr (.inl (List.mem_map.mpr ⟨x, hx, rfl⟩))))))
/-- the module's whole numbers -/
def GDi (is : List (Str × Gv)) : Str → D → Prop := fun x d => ∃ g, (x, g) ∈ is ∧ d = g.d
theorem fact_int {xs : List Str} {is : List (Str × Gv)} {fn : List He.DefD} {K : PySem.W.Frag} {h : Heap} {mg : Str → Option Value} (X : K.In h) (G : h.Ns mainGlobals mg) (c : He.SaysD (fa0 xs is) fn K) : ∀ x d, GDi is x d → GlobOk K mg x d := fun x d ⟨g, hi, hd⟩ => by
  subst hd
  have m := fact_mem c (f := g.fa x) (List.mem_append.mpr (.inr (List.mem_append.mpr (.inr (List.mem_map.mpr ⟨(x, g), hi, rfl⟩)))))
  cases g with
  | i n =>
    obtain ⟨t, ht⟩ := He.int_ok X G m
    exact ⟨_, .int n, ht, ⟨t, rfl⟩, fun _ _ _ => .int n⟩
  | s z =>
    obtain ⟨t, ht⟩ := He.str_ok X G m
    exact ⟨_, .str z, ht, ⟨t, rfl⟩, fun _ _ _ => .str z⟩
/-- a def, by its place among the facts -/
def dfn (x : Str) (st : PySem.Stmt) : He.DefD := ⟨(x, none), x, x, defArgs st, defBody st, defScope st, [], []⟩
theorem def_at {xs ps : List Str} {is : List (Str × Gv)} {fn : List He.DefD} {K : PySem.W.Frag} {h : Heap} {mg : Str → Option Value} {x : Str} {st : PySem.Stmt} {i : Nat} (X : K.In h) (G : h.Ns mainGlobals mg) (c : He.SaysD (fa0 xs is) fn K) (hx : xs[i]? = some x) (hd : fn[i]? = some (dfn x st))
    (b : ∀ (kV doc pm : Value) (an : Option Addr) (cdv ct : Value) (us : List Value), us.length = ps.length → bindArgs (PySem.W.fnOf x x (defArgs st) (defBody st) (defScope st) .none kV doc pm an cdv ct) ⟨us, []⟩ = pure (ps.zip us)) :
    ∃ fd, DefK K mg x st ps (He.ga K x) fd := by
  obtain ⟨fd, F⟩ := c.def_ i hd
  exact ⟨fd, F, fact_glo X G c hx, FunD.bindsN F b⟩
theorem stuck_ok {P : Program} {w : World} {K : PySem.W.Frag} {mg : Str → Option Value} {base : Heap} {lv : Nat} {x : Str} {st : PySem.Stmt} {ps : List Str} {f : Addr} {fd : FuncData} (F : DefK K mg x st ps f fd) : CalOk P w K mg base lv x (fun _ _ => .stuck) :=
  ⟨lv, f, fd, ps, ⟨fun vs H Q E h => (show False by obtain ⟨_, _, _, _, _, _, z⟩ := h; exact z).elim, fun A outer s H args us vs Q E _ _ _ _ h => (show False by obtain ⟨_, _, _, _, _, _, z⟩ := h; exact z).elim⟩, F.mgf, F.fn.kp, F.bd, Nat.le_refl _⟩
end MI
namespace MI
open PySem PySem.Spec L2
/-! ### the reading, row by row -/
section
variable {α β : Type} {a b c e o i : CE} {es : CEs} {ρ ρ' : MEnv} {S S' : Store} {d x y : D} {ss sa sb : CSs} {s : CS} {t : Tg} {it : CI} {k : α → Store → Rs β} {kf : α → Store → Fl} {v : α} {n : Nat} {cn : Str} {fs : List (Str × D)} {kk : MEnv → Store → Fl} {ds : List D}
theorem bind_ok : (Rs.ok v S).bind k = k v S := (rfl)
theorem fl_ok : (Rs.ok v S).fl ρ kf = kf v S := (rfl)
theorem of_some : Rs.of (some v) S = .ok v S := (rfl)
def Fl.seq (r : Fl) (k : MEnv → Store → Fl) : Fl := match r with | .nx ρ S => k ρ S | r => r
theorem seq_nx : (Fl.nx ρ S).seq kk = kk ρ S := (rfl)
theorem seq_ret : (Fl.ret d S).seq kk = .ret d S := (rfl)
def pick (d : D) (a b : Fl) : Fl := match d with | .bl true => a | .bl false => b | _ => .stuck
theorem pick_t {a b : Fl} : pick (.bl true) a b = a := (rfl)
theorem pick_f {a b : Fl} : pick (.bl false) a b = b := (rfl)
def getV (o : Option (Option D)) (S : Store) : Rs D := match o with | some (some d) => .ok d S | _ => .stuck
theorem getV_ok : getV (some (some d)) S = .ok d S := (rfl)
def putE (o : Option MEnv) (S : Store) : Fl := match o with | some ρ' => .nx ρ' S | none => .stuck
theorem putE_ok : putE (some ρ) S = .nx ρ S := (rfl)
def putS (ρ : MEnv) (o : Option Store) : Fl := match o with | some S' => .nx ρ S' | none => .stuck
theorem putS_ok : putS ρ (some S) = .nx ρ S := (rfl)
theorem ev_var {j : Nat} : ev (.var j) ρ S = getV ρ[j]? S := by
  show (match ρ[j]? with | some (some d) => Rs.ok d S | _ => .stuck) = getV ρ[j]? S
  unfold getV
  rfl
theorem ev_non : ev .non ρ S = .ok .non S := (rfl)
theorem ev_bl {b : Bool} : ev (.bl b) ρ S = .ok (.bl b) S := (rfl)
theorem ev_int {i : Int} : ev (.int i) ρ S = .ok (.int i) S := (rfl)
theorem ev_str {z : Str} : ev (.str z) ρ S = .ok (.str z) S := (rfl)
theorem ev_glob {z : Str} : ev (.glob z d) ρ S = .ok d S := (rfl)
theorem ev_bin {op : BOp} : ev (.bin op a b) ρ S = (ev a ρ S).bind fun x S => (ev b ρ S).bind fun y S => Rs.of (binD op x y S) S := (rfl)
theorem ev_cmp {op : COp} : ev (.cmp op a b) ρ S = (ev a ρ S).bind fun x S => (ev b ρ S).bind fun y S => Rs.of ((cmpD op x y S).map .bl) S := (rfl)
def negD (d : D) (S : Store) : Rs D := match d with | .int i => .ok (.int (-i)) S | _ => .stuck
theorem negD_int {i : Int} : negD (.int i) S = .ok (.int (-i)) S := (rfl)
theorem ev_neg : ev (.neg a) ρ S = (ev a ρ S).bind negD := (rfl)
def notD (d : D) (S : Store) : Rs D := match d with | .bl b => .ok (.bl (!b)) S | _ => .stuck
theorem notD_bl {b : Bool} : notD (.bl b) S = .ok (.bl (!b)) S := (rfl)
theorem ev_not : ev (.not a) ρ S = (ev a ρ S).bind notD := (rfl)
theorem ev_band : ev (.band es) ρ S = evAnd es ρ S := (rfl)
theorem ev_bor : ev (.bor es) ρ S = evOr es ρ S := (rfl)
def pickE (d : D) (a b : Rs D) : Rs D := match d with | .bl true => a | .bl false => b | _ => .stuck
theorem pickE_t {a b : Rs D} : pickE (.bl true) a b = a := (rfl)
theorem pickE_f {a b : Rs D} : pickE (.bl false) a b = b := (rfl)
theorem and_1 : evAnd (.cons a .nil) ρ S = (ev a ρ S).bind fun x S => pickE x (.ok (.bl true) S) (.ok (.bl false) S) := by
  show (ev a ρ S).bind (fun x S => (match x with | .bl b => Rs.ok (D.bl b) S | _ => .stuck)) = _
  cases ev a ρ S with
  | ok x S => cases x with
    | bl b => cases b <;> rfl
    | _ => rfl
  | ex c fs S => rfl
  | stuck => rfl
theorem and_c : evAnd (.cons a (.cons b es)) ρ S = (ev a ρ S).bind fun x S => pickE x (evAnd (.cons b es) ρ S) (.ok (.bl false) S) := by
  show (ev a ρ S).bind (fun x S => (match x with | .bl true => evAnd (.cons b es) ρ S | .bl false => Rs.ok (D.bl false) S | _ => .stuck)) = _
  cases ev a ρ S with
  | ok x S => cases x with
    | bl b => cases b <;> rfl
    | _ => rfl
  | ex c fs S => rfl
  | stuck => rfl
theorem or_1 : evOr (.cons a .nil) ρ S = (ev a ρ S).bind fun x S => pickE x (.ok (.bl true) S) (.ok (.bl false) S) := by
  show (ev a ρ S).bind (fun x S => (match x with | .bl b => Rs.ok (D.bl b) S | _ => .stuck)) = _
  cases ev a ρ S with
  | ok x S => cases x with
    | bl b => cases b <;> rfl
    | _ => rfl
  | ex c fs S => rfl
  | stuck => rfl
theorem or_c : evOr (.cons a (.cons b es)) ρ S = (ev a ρ S).bind fun x S => pickE x (.ok (.bl true) S) (evOr (.cons b es) ρ S) := by
  show (ev a ρ S).bind (fun x S => (match x with | .bl false => evOr (.cons b es) ρ S | .bl true => Rs.ok (D.bl true) S | _ => .stuck)) = _
  cases ev a ρ S with
  | ok x S => cases x with
    | bl b => cases b <;> rfl
    | _ => rfl
  | ex c fs S => rfl
  | stuck => rfl
theorem ev_chain {op op' : COp} : ev (.chain op op' a b c) ρ S = (ev a ρ S).bind fun x S => (ev b ρ S).bind fun y S => (match cmpD op x y S with
    | some true => (ev c ρ S).bind fun z S => Rs.of ((cmpD op' y z S).map .bl) S
    | some false => .ok (.bl false) S
    | none => .stuck) := (rfl)
theorem ev_isN : ev (.isN a) ρ S = (ev a ρ S).bind fun x S => Rs.of ((isNon x S).map .bl) S := (rfl)
theorem ev_notN : ev (.notN a) ρ S = (ev a ρ S).bind fun x S => Rs.of ((isNon x S).map fun b => .bl (!b)) S := (rfl)
theorem ev_ite : ev (.ite c a b) ρ S = (ev c ρ S).bind fun x S => pickE x (ev a ρ S) (ev b ρ S) := (rfl)
theorem ev_call {z : Str} {g : Fn} : ev (.call z g es) ρ S = (evs es ρ S).bind fun ds S => g ds S := (rfl)
theorem ev_bi {f : BFn} : ev (.bi f es) ρ S = (evs es ρ S).bind fun ds S => Rs.of (biD f ds S) S := (rfl)
theorem ev_tup : ev (.tup es) ρ S = (evs es ρ S).bind fun ds S => .ok (.tup ds) S := (rfl)
theorem ev_new {m : Bool} {l : CL} : ev (.new m l) ρ S = (evL l ρ S).bind fun ds S => newL m ds S := (rfl)
theorem new_f : newL false ds S = .ok (.lst ds) S := (rfl)
theorem new_t (h : ltL ds S.length = true) : newL true ds S = .ok (.ptr S.length) (S ++ [.lst ds]) := by unfold newL; rw [if_pos rfl, if_pos h]
theorem ev_dnewK : ev (.dnew false) ρ S = .ok (.ptr S.length) (S ++ [.dK []]) := (rfl)
theorem ev_dnewT : ev (.dnew true) ρ S = .ok (.ptr S.length) (S ++ [.dT []]) := (rfl)
theorem ev_ix : ev (.ix a b) ρ S = (ev a ρ S).bind fun x S => (ev b ρ S).bind fun y S => Rs.of (ixD x y S) S := (rfl)
theorem ev_sl {lo hi : CO} : ev (.sl a lo hi) ρ S = (ev a ρ S).bind fun x S => (evN lo ρ S).bind fun l S => (evN hi ρ S).bind fun h S => Rs.of (slD x l h S) S := (rfl)
def getF (o : Option (Option D)) (S : Store) : Rs D := match o with
  | some (some (.ptr n)) => (match S[n]? with | some (.lst ds) => .ok (.lst ds) (S.set n .dead) | _ => .stuck)
  | _ => .stuck
theorem ev_frz {j : Nat} : ev (.frz j) ρ S = getF ρ[j]? S := (rfl)
theorem getF_ok (h : S[n]? = some (.lst ds)) : getF (some (some (.ptr n))) S = .ok (.lst ds) (S.set n .dead) := by
  show (match S[n]? with | some (.lst ds) => Rs.ok (D.lst ds) (S.set n .dead) | _ => .stuck) = _
  rw [h]
theorem evs_nil : evs .nil ρ S = .ok [] S := (rfl)
theorem evs_cons : evs (.cons a es) ρ S = (ev a ρ S).bind fun x S => (evs es ρ S).bind fun xs S => .ok (x :: xs) S := (rfl)
theorem evN_n : evN .none ρ S = .ok none S := (rfl)
def intN (d : D) (S : Store) : Rs (Option Int) := match d with | .int i => .ok (some i) S | _ => .stuck
theorem intN_int {i : Int} : intN (.int i) S = .ok (some i) S := (rfl)
theorem evN_s : evN (.some a) ρ S = (ev a ρ S).bind intN := (rfl)
theorem evO_n : evO .none ρ S = .ok none S := (rfl)
theorem evO_s : evO (.some a) ρ S = (ev a ρ S).bind fun x S => .ok (some x) S := (rfl)
theorem evL_disp : evL (.disp es) ρ S = evs es ρ S := (rfl)
def joinM (x : D) (f : Str → Rs D) : Rs D := match x with | .str s => f s | _ => .stuck
theorem ev_join : ev (.join a b) ρ S = (ev a ρ S).bind fun x S => joinM x fun s => (ev b ρ S).bind fun y S => Rs.of (joinD s (seqOf y S)) S := (rfl)
theorem joinM_s {z : Str} {f : Str → Rs D} : joinM (.str z) f = f z := (rfl)
def sortM (x : D) (S : Store) : Rs (List D) := (match x with
    | .tup _ => .stuck
    | .con _ => .stuck
    | x => (match seqOf x S with
      | some ds => if fitL ds 50 && alikeAllD ds && sortableD ds then .ok (ds.mergeSort leD) S else .stuck
      | none => .stuck))
theorem evL_sorted : evL (.sorted e) ρ S = (ev e ρ S).bind sortM := (rfl)
theorem sortM_l (h : (fitL ds 50 && alikeAllD ds && sortableD ds) = true) : sortM (.lst ds) S = .ok (ds.mergeSort leD) S := by
  show (if fitL ds 50 && alikeAllD ds && sortableD ds then Rs.ok (ds.mergeSort leD) S else .stuck) = _
  rw [if_pos h]
def sortkM (g : Fn) (x : D) (S : Store) : Rs (List D) := (match x with
    | .tup _ => .stuck
    | .con _ => .stuck
    | x => (match seqOf x S with
      | some ds => (match mapK g ds S with
        | some (ks, S2) => if fitL ks 50 && alikeAllD ks && sortableD ks then .ok (((ks.zip ds).mergeSort fun a b => leD a.1 b.1).map (·.2)) S2 else .stuck
        | none => .stuck)
      | none => .stuck))
theorem evL_sortk {z : Str} {g : Fn} : evL (.sortk e z g) ρ S = (ev e ρ S).bind (sortkM g) := (rfl)
theorem sortkM_l {g : Fn} {ks : List D} (hm : mapK g ds S = some (ks, S')) (h : (fitL ks 50 && alikeAllD ks && sortableD ks) = true) : sortkM g (.lst ds) S = .ok (((ks.zip ds).mergeSort fun (a b : D × D) => leD a.1 b.1).map fun p : D × D => p.2) S' := by
  show (match mapK g ds S with
        | some (ks, S2) => if fitL ks 50 && alikeAllD ks && sortableD ks then Rs.ok (((ks.zip ds).mergeSort fun (a b : D × D) => leD a.1 b.1).map fun p : D × D => p.2) S2 else .stuck
        | none => .stuck) = _
  rw [hm]
  show (if _ then _ else _) = _
  rw [if_pos h]
theorem evL_list : evL (.list e) ρ S = (ev e ρ S).bind fun x S => Rs.of (seqOf x S) S := (rfl)
def keysM (x : D) (S : Store) : Rs (List D) := (match x with
    | .ptr n => (match S[n]? with
      | some (.dK kvs) => .ok (kvs.map fun kv => kD kv.1) S
      | some (.dT kvs) => .ok (kvs.map fun kv => .tup (kv.1.map kD)) S
      | _ => .stuck)
    | _ => .stuck)
theorem evL_keys : evL (.keys e) ρ S = (ev e ρ S).bind keysM := (rfl)
theorem keysM_K {kvs : List (Key × D)} (h : S[n]? = some (.dK kvs)) : keysM (.ptr n) S = .ok (kvs.map fun kv => kD kv.1) S := by
  unfold keysM
  simp only [h]
theorem keysM_T {kvs : List (List Key × D)} (h : S[n]? = some (.dT kvs)) : keysM (.ptr n) S = .ok (kvs.map fun kv => .tup (kv.1.map kD)) S := by
  unfold keysM
  simp only [h]
theorem seq_lst : seqOf (.lst ds) S = some ds := (rfl)
theorem seq_tup : seqOf (.tup ds) S = some ds := (rfl)
theorem b_mulS {z : Str} {j : Int} (h : z.length ≤ 1000 ∧ -1000 ≤ j ∧ j ≤ 1000) : binD .mul (.str z) (.int j) S = some (.str (Txt.mul z j)) := by
  show (if _ then _ else _) = _
  rw [if_pos h]
theorem b_mulL {j : Int} (h : ds.length * j.toNat ≤ 1000000 ∧ -1000 ≤ j ∧ j ≤ 1000) : binD .mul (.lst ds) (.int j) S = some (.lst (List.replicate j.toNat ds).flatten) := by
  show (if _ then _ else _) = _
  rw [if_pos h]
def putO (x k d : D) (S : Store) (f : Store → Fl) : Fl := (match (if isDict x S then dPut x k d S else putL x k d S) with
  | some S => f S
  | none => .stuck)
theorem ex_putp {i j p : CE} : ex (.putp o i p j a b) ρ S = (ev a ρ S).fl ρ fun d S => (ev b ρ S).fl ρ fun d2 S => (ev o ρ S).fl ρ fun x S => (ev i ρ S).fl ρ fun k S => putO x k d S fun S =>
    (ev p ρ S).fl ρ fun x S => (ev j ρ S).fl ρ fun k S => putS ρ (if isDict x S then dPut x k d2 S else putL x k d2 S) := (rfl)
theorem evL_cm {own : List (Str × Nat)} {co : CO} : evL (.comp own t it co e) ρ S = (evI it ρ (lockI it ρ S).1).bind fun items S1 => (compL (turnC t (own.map (·.2)) co e ρ) items [] S1).bind fun ds S2 => (match unl (lockI it ρ S).2 S2 with | some S3 => .ok ds S3 | none => .stuck) := (rfl)
theorem evI_seq : evI (.seq e) ρ S = (ev e ρ S).bind fun x S => Rs.of (iterD x) S := (rfl)
def rngD (d : D) (S : Store) : Rs (List D) := match d with | .int j => if small62 j then .ok (rangeD 0 j) S else .stuck | _ => .stuck
theorem rngD_ok {j : Int} (h : small62 j = true) : rngD (.int j) S = .ok (rangeD 0 j) S := by
  show (if small62 j then _ else _) = _
  rw [if_pos h]
theorem evI_rng1 : evI (.rng1 e) ρ S = (ev e ρ S).bind rngD := (rfl)
def rngD2 (d d' : D) (S : Store) : Rs (List D) := match d, d' with | .int i, .int j => if small62 i && small62 j then .ok (rangeD i j) S else .stuck | _, _ => .stuck
theorem rngD2_ok {i j : Int} (h : small62 i = true) (h' : small62 j = true) : rngD2 (.int i) (.int j) S = .ok (rangeD i j) S := by
  show (if (small62 i && small62 j) = true then _ else _) = _
  rw [if_pos (by rw [h, h']; rfl)]
theorem evI_rng2 : evI (.rng2 a b) ρ S = (ev a ρ S).bind fun x S => (ev b ρ S).bind fun y S => rngD2 x y S := (rfl)
theorem evI_enum : evI (.enum e) ρ S = (ev e ρ S).bind fun x S => Rs.of ((iterL x).map enumD) S := (rfl)
theorem exs_nil : exs .nil ρ S = .nx ρ S := (rfl)
theorem exs_cons : exs (.cons s ss) ρ S = (ex s ρ S).seq (exs ss) := by
  show (match ex s ρ S with | .nx ρ' S' => exs ss ρ' S' | r => r) = _
  cases ex s ρ S <;> rfl
def frzM (o : Option (Option D)) (S : Store) (k : List D → Nat → Fl) : Fl := match o with
  | some (some (.ptr n)) => (match S[n]? with | some (.lst ds) => k ds n | _ => .stuck)
  | _ => .stuck
theorem exs_frz {j : Nat} : exs (.frz j ss) ρ S = frzM ρ[j]? S fun ds n => exs ss (ρ.set j (some (.lst ds))) (S.set n .dead) := by
  show (match ρ[j]? with
    | some (some (.ptr n)) => (match S[n]? with | some (.lst ds) => exs ss (ρ.set j (some (.lst ds))) (S.set n .dead) | _ => .stuck)
    | _ => .stuck) = _
  rfl
theorem frzM_ok {kf : List D → Nat → Fl} (h : S[n]? = some (.lst ds)) : frzM (some (some (.ptr n))) S kf = kf ds n := by
  unfold frzM
  simp only [h]
theorem ex_asg : ex (.asg t e) ρ S = (ev e ρ S).fl ρ fun d S => putE (setT t d ρ) S := (rfl)
theorem setT_n {j : Nat} : setT (.name j) d ρ = some (ρ.set j (some d)) := (rfl)
theorem setT_t {is : List Nat} (h : ds.length = is.length) : setT (.tup is) (.tup ds) ρ = some ((is.zip ds).foldl (fun ρ p => ρ.set p.1 (some p.2)) ρ) := by
  show (if _ then _ else _) = _
  rw [if_pos h]
theorem ex_par {i j : Nat} : ex (.par i j a b) ρ S = (ev a ρ S).fl ρ fun x S => (ev b ρ S).fl ρ fun y S => .nx ((ρ.set i (some x)).set j (some y)) S := (rfl)
theorem ex_put : ex (.put o i e) ρ S = (ev e ρ S).fl ρ fun d S => (ev o ρ S).fl ρ fun x S => (ev i ρ S).fl ρ fun k S => putS ρ (if isDict x S then dPut x k d S else putL x k d S) := (rfl)
def augD (o : Option (Option D)) (j : Nat) (ρ : MEnv) (r : Rs D) : Fl := match o with
  | some (some (.int x)) => r.fl ρ fun d S => (match d with | .int y => .nx (ρ.set j (some (.int (x + y)))) S | _ => .stuck)
  | _ => .stuck
theorem ex_aug {j : Nat} : ex (.aug j e) ρ S = augD ρ[j]? j ρ (ev e ρ S) := (rfl)
theorem augD_ok {j : Nat} {x y : Int} : augD (some (some (.int x))) j ρ (.ok (.int y) S) = .nx (ρ.set j (some (.int (x + y)))) S := (rfl)
theorem ex_drop : ex (.drop e) ρ S = (ev e ρ S).fl ρ fun _ S => .nx ρ S := (rfl)
theorem ex_app : ex (.app o e) ρ S = (ev o ρ S).fl ρ fun x S => if isCellL x S then (ev e ρ S).fl ρ fun d S => putS ρ (appL x d S) else .stuck := (rfl)
theorem ex_ifs : ex (.ifs c sa sb) ρ S = (ev c ρ S).fl ρ fun x S => pick x (exs sa ρ S) (exs sb ρ S) := (rfl)
theorem ex_for : ex (.for_ t it ss) ρ S = ((evI it ρ (lockI it ρ S).1).fl ρ fun items S => forL (turnF t ss) items ρ S).unlock (lockI it ρ S).2 := (rfl)
theorem ex_while : ex (.while_ n c ss) ρ S = whileL (ev c) (exs ss) n ρ S := (rfl)
theorem ex_ret : ex (.ret e) ρ S = (ev e ρ S).fl ρ fun d S => .ret d S := (rfl)
theorem ex_retN : ex .retN ρ S = .ret .non S := (rfl)
theorem ex_pass : ex .pass ρ S = .nx ρ S := (rfl)
theorem unlock_nx : (Fl.nx ρ S).unlock none = .nx ρ S := (rfl)
theorem unlock_ret : (Fl.ret d S).unlock none = .ret d S := (rfl)
theorem lock_seq : lockI (.seq e) ρ S = (S, none) := (rfl)
theorem lock_rng1 : lockI (.rng1 e) ρ S = (S, none) := (rfl)
theorem lock_rng2 : lockI (.rng2 a b) ρ S = (S, none) := (rfl)
theorem lock_enum : lockI (.enum e) ρ S = (S, none) := (rfl)
theorem lock_text : lockI (.text e) ρ S = (S, none) := (rfl)
theorem cmp_lt {i j : Int} : cmpD .lt (.int i) (.int j) S = some (decide (i < j)) := (rfl)
theorem cmp_le {i j : Int} : cmpD .le (.int i) (.int j) S = some (decide (i ≤ j)) := (rfl)
theorem cmp_gt {i j : Int} : cmpD .gt (.int i) (.int j) S = some (decide (j < i)) := (rfl)
theorem cmp_ge {i j : Int} : cmpD .ge (.int i) (.int j) S = some (decide (j ≤ i)) := (rfl)
theorem cmp_eqi {i j : Int} : cmpD .eq (.int i) (.int j) S = some (i == j) := (rfl)
theorem cmp_nei {i j : Int} : cmpD .ne (.int i) (.int j) S = some (!(i == j)) := (rfl)
theorem cmp_eqb {i j : Bool} : cmpD .eq (.bl i) (.bl j) S = some (i == j) := (rfl)
theorem cmp_neb {i j : Bool} : cmpD .ne (.bl i) (.bl j) S = some (!(i == j)) := (rfl)
theorem b_add {i j : Int} : binD .add (.int i) (.int j) S = some (.int (i + j)) := (rfl)
theorem b_sub {i j : Int} : binD .sub (.int i) (.int j) S = some (.int (i - j)) := (rfl)
theorem b_mul {i j : Int} (h : mulOk i j = true) : binD .mul (.int i) (.int j) S = some (.int (i * j)) := by
  show (if mulOk i j then _ else _) = _
  rw [if_pos h]
theorem b_mod {i j : Int} (h : 0 < j) : binD .mod (.int i) (.int j) S = some (.int (i % j)) := by
  show (if 0 < j then _ else _) = _
  rw [if_pos h]
theorem b_div {i j : Int} (h : 0 < j) (h' : divOk j = true) : binD .fdiv (.int i) (.int j) S = some (.int (i / j)) := by
  show (if divOk j then (if 0 < j then _ else _) else _) = _
  rw [if_pos h', if_pos h]
theorem b_divn {i j : Int} (h : j < 0) (h' : divOk j = true) : binD .fdiv (.int i) (.int j) S = some (.int (i.fdiv j)) := by
  show (if divOk j then (if 0 < j then _ else _) else _) = _
  rw [if_pos h', if_neg (by omega), if_pos h]
theorem bi_abs {i : Int} : biD .abs [.int i] S = some (.int (i.natAbs : Int)) := by
  show some (D.int (if i < 0 then -i else i)) = _
  congr 2
  split <;> omega
theorem bi_int {i : Int} : biD .int [.int i] S = some (.int i) := (rfl)
theorem len_lst : biD .len [.lst ds] S = some (.int ds.length) := (rfl)
theorem len_tup : biD .len [.tup ds] S = some (.int ds.length) := (rfl)
theorem len_scr : biD .len [.scr ds] S = some (.int ds.length) := (rfl)
theorem ix_lst {j : Int} : ixD (.lst ds) (.int j) S = atI ds j := (rfl)
theorem ix_tup {j : Int} : ixD (.tup ds) (.int j) S = atI ds j := (rfl)
theorem ix_scr {j : Int} : ixD (.scr ds) (.int j) S = atI ds j := (rfl)
theorem ix_ptr {j : Int} (h : S[n]? = some (.lst ds)) : ixD (.ptr n) (.int j) S = atI ds j := by
  unfold ixD isDict
  simp only [h, seqOf]
  rfl
theorem at_0 {x0 : D} : atI (x0 :: ds) 0 = some x0 := atI_nat (j := 0) rfl
theorem at_1 {x0 x1 : D} : atI (x0 :: x1 :: ds) 1 = some x1 := atI_nat (j := 1) rfl
theorem at_2 {x0 x1 x2 : D} : atI (x0 :: x1 :: x2 :: ds) 2 = some x2 := atI_nat (j := 2) rfl
theorem at_3 {x0 x1 x2 x3 : D} : atI (x0 :: x1 :: x2 :: x3 :: ds) 3 = some x3 := atI_nat (j := 3) rfl
theorem isN_non : isNon .non S = some true := (rfl)
theorem isN_int {i : Int} : isNon (.int i) S = some false := (rfl)
theorem isN_tup : isNon (.tup ds) S = some false := (rfl)
theorem isN_lst : isNon (.lst ds) S = some false := (rfl)
theorem isN_str {z : Str} : isNon (.str z) S = some false := (rfl)
theorem isN_bl {z : Bool} : isNon (.bl z) S = some false := (rfl)
theorem cell_l (h : S[n]? = some (.lst ds)) : isCellL (.ptr n) S = true := by
  unfold isCellL
  simp only [h]
theorem app_l (h : S[n]? = some (.lst ds)) (hl : d.lt n = true) (hs : ds.length < 1000000) : appL (.ptr n) d S = some (S.set n (.lst (ds ++ [d]))) := by
  unfold appL
  simp only [h, hl, if_true, hs]
theorem put_l {j : Int} {m : Nat} (h : S[n]? = some (.lst ds)) (hl : d.lt n = true) (hj : j = (m : Int)) (hm : m < ds.length) : (if isDict (.ptr n) S then dPut (.ptr n) (.int j) d S else putL (.ptr n) (.int j) d S) = some (S.set n (.lst (ds.set m d))) := by
  subst hj
  have e : ixN ds.length (m : Int) = some m := by
    unfold ixN
    rw [if_pos (by omega), if_pos (by omega)]; simp
  unfold isDict putL
  simp only [h, hl, if_true, e]
  rfl
theorem putO_l {j : Int} {m : Nat} {f : Store → Fl} (h : S[n]? = some (.lst ds)) (hl : d.lt n = true) (hj : j = (m : Int)) (hm : m < ds.length) : putO (.ptr n) (.int j) d S f = f (S.set n (.lst (ds.set m d))) := by
  unfold putO
  rw [put_l h hl hj hm]
end
end MI
namespace MI.K
open PySem PySem.Spec L2
def w_run_end_1 : CE :=
 (.band (.cons (.cmp .lt (.var 3) (.bi .len (.cons (.var 0) .nil))) (.cons (.cmp .inn (.ix (.var 0) (.var 3)) (.var 2)) .nil)))
def b_run_end_1 : CSs :=
 (.cons (.aug 3 (.int 1))
 .nil)
def c_run_end : CSs :=
 (.cons (.asg (.name 3) (.var 1))
 (.cons (.while_ 10000 w_run_end_1 b_run_end_1)
 (.cons (.ret (.var 3))
 .nil)))
def f_run_end : Fn := fnOf 3 4 c_run_end
def c_is_number : CSs :=
 (.cons (.ret (.band (.cons (.cmp .le (.bi .len (.cons (.var 0) .nil)) (.glob "NUMBER_LENGTH" (.int 4))) (.cons (.bor (.cons (.cmp .eq (.bi .len (.cons (.var 0) .nil)) (.int 1)) (.cons (.cmp .ne (.ix (.var 0) (.int 0)) (.str "0")) .nil))) .nil))))
 .nil)
def f_is_number : Fn := fnOf 1 1 c_is_number
def c_token : CSs :=
 (.cons (.asg (.name 2) (.ix (.var 0) (.var 1)))
 (.cons (.ifs (.cmp .inn (.var 2) (.glob "LETTERS" (.str "abcdefghijklmnopqrstuvwxyz")))
 (.cons (.asg (.name 3) (.sl (.var 0) (.some (.var 1)) (.some (.call "_run_end" f_run_end (.cons (.var 0) (.cons (.var 1) (.cons (.glob "LETTERS" (.str "abcdefghijklmnopqrstuvwxyz")) .nil)))))))
 (.cons (.ifs (.cmp .gt (.bi .len (.cons (.var 3) .nil)) (.glob "WORD_LENGTH" (.int 8)))
 (.cons (.ret (.tup (.cons (.str "bad") (.cons (.var 3) .nil))))
 .nil)
 .nil)
 (.cons (.ret (.tup (.cons (.str "word") (.cons (.var 3) .nil))))
 .nil)))
 .nil)
 (.cons (.ifs (.cmp .inn (.var 2) (.glob "DIGITS" (.str "0123456789")))
 (.cons (.asg (.name 3) (.sl (.var 0) (.some (.var 1)) (.some (.call "_run_end" f_run_end (.cons (.var 0) (.cons (.var 1) (.cons (.glob "DIGITS" (.str "0123456789")) .nil)))))))
 (.cons (.ifs (.call "_is_number" f_is_number (.cons (.var 3) .nil))
 (.cons (.ret (.tup (.cons (.str "number") (.cons (.var 3) .nil))))
 .nil)
 .nil)
 (.cons (.ret (.tup (.cons (.str "bad") (.cons (.var 3) .nil))))
 .nil)))
 .nil)
 (.cons (.ifs (.cmp .eq (.var 2) (.str "-"))
 (.cons (.asg (.name 3) (.sl (.var 0) (.some (.bin .add (.var 1) (.int 1))) (.some (.call "_run_end" f_run_end (.cons (.var 0) (.cons (.bin .add (.var 1) (.int 1)) (.cons (.glob "DIGITS" (.str "0123456789")) .nil)))))))
 (.cons (.ifs (.band (.cons (.cmp .ne (.var 3) (.str "")) (.cons (.cmp .ne (.var 3) (.str "0")) (.cons (.call "_is_number" f_is_number (.cons (.var 3) .nil)) .nil))))
 (.cons (.ret (.tup (.cons (.str "number") (.cons (.bin .add (.str "-") (.var 3)) .nil))))
 .nil)
 .nil)
 .nil))
 .nil)
 (.cons (.ret (.tup (.cons (.str "bad") (.cons (.var 2) .nil))))
 .nil)))))
def f_token : Fn := fnOf 2 4 c_token
def w_tokens_1 : CE :=
 (.cmp .lt (.var 2) (.bi .len (.cons (.var 0) .nil)))
def b_tokens_1 : CSs :=
 (.cons (.ifs (.cmp .eq (.ix (.var 0) (.var 2)) (.str " "))
 (.cons (.aug 2 (.int 1))
 .nil)
 (.cons (.asg (.name 3) (.call "_token" f_token (.cons (.var 0) (.cons (.var 2) .nil))))
 (.cons (.app (.var 1) (.var 3))
 (.cons (.aug 2 (.bi .len (.cons (.ix (.var 3) (.int 1)) .nil)))
 .nil))))
 .nil)
def c_tokens : CSs :=
 (.cons (.asg (.name 1) (.new true (.disp .nil)))
 (.cons (.asg (.name 2) (.int 0))
 (.cons (.while_ 10000 w_tokens_1 b_tokens_1)
 (.cons (.ret (.frz 1))
 .nil))))
def f_tokens : Fn := fnOf 1 4 c_tokens
def c_Lcell : CSs :=
 (.cons (.ifs (.cmp .lt (.var 1) (.bi .len (.cons (.var 0) .nil)))
 (.cons (.ret (.ix (.var 0) (.var 1)))
 .nil)
 .nil)
 (.cons (.ret (.int 0))
 .nil))
def f_Lcell : Fn := fnOf 2 2 c_Lcell
def b_Ldigits_1 : CSs :=
 (.cons (.ifs (.cmp .gt (.var 5) (.int 0))
 (.cons (.app (.var 3) (.bin .mod (.bi .int (.cons (.var 5) .nil)) (.int 1000)))
 (.cons (.asg (.name 5) (.bin .fdiv (.var 5) (.int 1000)))
 .nil))
 .nil)
 .nil)
def b_Ldigits_2 : CSs :=
 (.cons (.asg (.name 7) (.bin .mod (.bi .int (.cons (.bin .add (.bin .add (.bin .mul (.var 7) (.int 16807)) (.bin .mul (.int 7) (.var 6))) (.int 1)) .nil)) (.int 2147483647)))
 (.cons (.app (.var 3) (.bin .mod (.bi .int (.cons (.bin .fdiv (.var 7) (.int 997)) .nil)) (.int 1000)))
 .nil))
def b_Ldigits_3 : CSs :=
 (.cons (.asg (.name 5) (.call "_law_cell" f_Lcell (.cons (.var 0) (.cons (.var 4) .nil))))
 (.cons (.ifs (.cmp .lt (.var 5) (.int 0))
 (.cons (.asg (.name 5) (.bin .sub (.int 1) (.bin .mul (.int 2) (.var 5))))
 .nil)
 .nil)
 (.cons (.ifs (.cmp .ge (.var 5) (.bin .pow (.int 10) (.int 18)))
 (.cons (.for_ (.name 6) (.rng1 (.int 60)) b_Ldigits_1)
 .nil)
 (.cons (.asg (.name 7) (.bin .mod (.bi .int (.cons (.bin .add (.bin .add (.bin .mul (.var 5) (.int 48271)) (.bin .mul (.var 4) (.int 69621))) (.int 11)) .nil)) (.int 2147483647)))
 (.cons (.for_ (.name 6) (.rng1 (.int 12)) b_Ldigits_2)
 .nil)))
 .nil)))
def c_Ldigits : CSs :=
 (.cons (.asg (.name 3) (.new true (.disp .nil)))
 (.cons (.for_ (.name 4) (.rng2 (.var 1) (.var 2)) b_Ldigits_3)
 (.cons (.ret (.frz 3))
 .nil)))
def f_Ldigits : Fn := fnOf 3 8 c_Ldigits
def c_Ldraw : CSs :=
 (.cons (.asg (.name 2) (.ix (.var 0) (.int 1)))
 (.cons (.put (.var 0) (.int 1) (.bin .add (.var 2) (.int 1)))
 (.cons (.ifs (.cmp .lt (.var 2) (.bi .len (.cons (.ix (.var 0) (.int 0)) .nil)))
 (.cons (.ret (.bin .mod (.bi .int (.cons (.ix (.ix (.var 0) (.int 0)) (.var 2)) .nil)) (.var 1)))
 .nil)
 .nil)
 (.cons (.ret (.int 0))
 .nil))))
def f_Ldraw : Fn := fnOf 2 3 c_Ldraw
def b_Lsame_1 (g : Fn) : CSs :=
 (.cons (.ifs (.not (.call "_law_same" g (.cons (.ix (.var 0) (.var 2)) (.cons (.ix (.var 1) (.var 2)) .nil))))
 (.cons (.ret (.bl false))
 .nil)
 .nil)
 .nil)
def c_Lsame (g : Fn) : CSs :=
 (.cons (.ifs (.bor (.cons (.bi .isList (.cons (.var 1) .nil)) (.cons (.bi .isTuple (.cons (.var 1) .nil)) .nil)))
 (.cons (.ifs (.bor (.cons (.cmp .ne (.bi .isList (.cons (.var 1) .nil)) (.bi .isList (.cons (.var 0) .nil))) (.cons (.cmp .ne (.bi .isTuple (.cons (.var 1) .nil)) (.bi .isTuple (.cons (.var 0) .nil))) .nil)))
 (.cons (.ret (.bl false))
 .nil)
 .nil)
 (.cons (.ifs (.cmp .ne (.bi .len (.cons (.var 0) .nil)) (.bi .len (.cons (.var 1) .nil)))
 (.cons (.ret (.bl false))
 .nil)
 .nil)
 (.cons (.for_ (.name 2) (.rng1 (.bi .len (.cons (.var 1) .nil))) (b_Lsame_1 g))
 (.cons (.ret (.bl true))
 .nil))))
 .nil)
 (.cons (.ifs (.isN (.var 1))
 (.cons (.ret (.isN (.var 0)))
 .nil)
 .nil)
 (.cons (.ifs (.bi .isBool (.cons (.var 1) .nil))
 (.cons (.ret (.band (.cons (.bi .isBool (.cons (.var 0) .nil)) (.cons (.cmp .eq (.var 0) (.var 1)) .nil))))
 .nil)
 .nil)
 (.cons (.ifs (.bi .isStr (.cons (.var 1) .nil))
 (.cons (.ret (.band (.cons (.bi .isStr (.cons (.var 0) .nil)) (.cons (.cmp .eq (.var 0) (.var 1)) .nil))))
 .nil)
 .nil)
 (.cons (.ret (.band (.cons (.bi .isInt (.cons (.var 0) .nil)) (.cons (.not (.bi .isBool (.cons (.var 0) .nil))) (.cons (.cmp .eq (.var 0) (.var 1)) .nil)))))
 .nil)))))
def f_Lsame : Nat → Fn
  | 0 => fun _ _ => .stuck
  | n + 1 => fnOf 2 3 (c_Lsame (f_Lsame n))
def b_Lrun_1 : CSs :=
 (.cons (.asg (.name 3) (.bin .add (.var 3) (.ix (.var 2) (.call "_law_draw" f_Ldraw (.cons (.var 0) (.cons (.bi .len (.cons (.var 2) .nil)) .nil))))))
 .nil)
def c_Lrun : CSs :=
 (.cons (.asg (.name 3) (.str ""))
 (.cons (.for_ (.name 4) (.rng1 (.var 1)) b_Lrun_1)
 (.cons (.ret (.var 3))
 .nil)))
def f_Lrun : Fn := fnOf 3 5 c_Lrun
def c_Ltoken : CSs :=
 (.cons (.asg (.name 1) (.call "_law_draw" f_Ldraw (.cons (.var 0) (.cons (.int 5) .nil))))
 (.cons (.ifs (.cmp .lt (.var 1) (.int 2))
 (.cons (.asg (.name 2) (.call "_law_run" f_Lrun (.cons (.var 0) (.cons (.bin .add (.int 1) (.call "_law_draw" f_Ldraw (.cons (.var 0) (.cons (.ix (.new false (.disp (.cons (.int 4) (.cons (.int 11) .nil)))) (.call "_law_draw" f_Ldraw (.cons (.var 0) (.cons (.int 2) .nil)))) .nil)))) (.cons (.str "abcdefghijklmnopqrstuvwxyz") .nil)))))
 (.cons (.ret (.new false (.disp (.cons (.tup (.cons (.ix (.new false (.disp (.cons (.str "word") (.cons (.str "bad") .nil)))) (.bi .int (.cons (.cmp .gt (.bi .len (.cons (.var 2) .nil)) (.int 8)) .nil))) (.cons (.var 2) .nil))) .nil))))
 .nil))
 .nil)
 (.cons (.ifs (.cmp .lt (.var 1) (.int 4))
 (.cons (.asg (.name 2) (.call "_law_run" f_Lrun (.cons (.var 0) (.cons (.bin .add (.int 1) (.call "_law_draw" f_Ldraw (.cons (.var 0) (.cons (.int 6) .nil)))) (.cons (.str "0123456789") .nil)))))
 (.cons (.asg (.name 3) (.band (.cons (.cmp .le (.bi .len (.cons (.var 2) .nil)) (.int 4)) (.cons (.bor (.cons (.cmp .eq (.bi .len (.cons (.var 2) .nil)) (.int 1)) (.cons (.cmp .ne (.ix (.var 2) (.int 0)) (.str "0")) .nil))) .nil))))
 (.cons (.ifs (.cmp .eq (.var 1) (.int 3))
 (.cons (.ifs (.band (.cons (.var 3) (.cons (.cmp .ne (.var 2) (.str "0")) .nil)))
 (.cons (.ret (.new false (.disp (.cons (.tup (.cons (.str "number") (.cons (.bin .add (.str "-") (.var 2)) .nil))) .nil))))
 .nil)
 .nil)
 (.cons (.ret (.new false (.disp (.cons (.tup (.cons (.str "bad") (.cons (.str "-") .nil))) (.cons (.tup (.cons (.ix (.new false (.disp (.cons (.str "bad") (.cons (.str "number") .nil)))) (.bi .int (.cons (.var 3) .nil))) (.cons (.var 2) .nil))) .nil)))))
 .nil))
 .nil)
 (.cons (.ret (.new false (.disp (.cons (.tup (.cons (.ix (.new false (.disp (.cons (.str "bad") (.cons (.str "number") .nil)))) (.bi .int (.cons (.var 3) .nil))) (.cons (.var 2) .nil))) .nil))))
 .nil))))
 .nil)
 (.cons (.ret (.new false (.disp (.cons (.tup (.cons (.str "bad") (.cons (.ix (.str (⟨#[65, 66, 90, 33, 35, 36, 38, 39, 40, 41, 42, 43, 44, 46, 47, 58, 59, 60, 61, 62, 63, 64, 91, 92, 93, 94, 95, 96, 123, 124, 125, 126, 45]⟩ : Str)) (.call "_law_draw" f_Ldraw (.cons (.var 0) (.cons (.int 33) .nil)))) .nil))) .nil))))
 .nil))))
def f_Ltoken : Fn := fnOf 1 4 c_Ltoken
def c_Lsort : CSs :=
 (.cons (.ifs (.cmp .inn (.ix (.var 0) (.neg (.int 1))) (.str "0123456789"))
 (.cons (.ret (.int 1))
 .nil)
 .nil)
 (.cons (.ret (.bin .mul (.int 2) (.bi .int (.cons (.cmp .inn (.ix (.var 0) (.neg (.int 1))) (.str "abcdefghijklmnopqrstuvwxyz")) .nil))))
 .nil))
def f_Lsort : Fn := fnOf 1 1 c_Lsort
def c_Lfirst : CSs :=
 (.cons (.ifs (.cmp .inn (.ix (.var 0) (.int 0)) (.str "0123456789"))
 (.cons (.ret (.int 1))
 .nil)
 .nil)
 (.cons (.ret (.bin .mul (.int 2) (.bi .int (.cons (.cmp .inn (.ix (.var 0) (.int 0)) (.str "abcdefghijklmnopqrstuvwxyz")) .nil))))
 .nil))
def f_Lfirst : Fn := fnOf 1 1 c_Lfirst
def e_law_1 : CE :=
 (.ix (.var 8) (.int 1))
def b_law_1 : CSs :=
 (.cons (.asg (.name 5) (.call "_law_token" f_Ltoken (.cons (.var 1) .nil)))
 (.cons (.asg (.name 6) (.ix (.new false (.disp (.cons (.int 0) (.cons (.int 0) (.cons (.int 0) (.cons (.int 1) (.cons (.int 1) (.cons (.int 2) .nil)))))))) (.call "_law_draw" f_Ldraw (.cons (.var 1) (.cons (.int 6) .nil)))))
 (.cons (.asg (.name 7) (.ix (.ix (.var 5) (.int 0)) (.int 1)))
 (.cons (.ifs (.band (.cons (.cmp .gt (.bi .len (.cons (.var 2) .nil)) (.int 0)) (.cons (.cmp .gt (.call "_law_first" f_Lfirst (.cons (.var 7) .nil)) (.int 0)) .nil)))
 (.cons (.ifs (.bor (.cons (.cmp .eq (.call "_law_first" f_Lfirst (.cons (.var 7) .nil)) (.call "_law_sort" f_Lsort (.cons (.ix (.ix (.var 2) (.neg (.int 1))) (.int 1)) .nil))) (.cons (.band (.cons (.cmp .eq (.ix (.ix (.var 2) (.neg (.int 1))) (.int 1)) (.str "-")) (.cons (.cmp .eq (.call "_law_first" f_Lfirst (.cons (.var 7) .nil)) (.int 1)) .nil))) .nil)))
 (.cons (.asg (.name 6) (.bi .max2 (.cons (.int 1) (.cons (.var 6) .nil))))
 .nil)
 .nil)
 .nil)
 .nil)
 (.cons (.asg (.name 3) (.bin .add (.bin .add (.var 3) (.bin .mul (.str " ") (.var 6))) (.join (.str "") (.new false (.comp [("_law_row", 8)] (.name 8) (.seq (.var 5)) .none e_law_1)))))
 (.cons (.asg (.name 2) (.bin .add (.var 2) (.var 5)))
 .nil))))))
def c_law : CSs :=
 (.cons (.asg (.name 1) (.new true (.disp (.cons (.call "_law_digits" f_Ldigits (.cons (.var 0) (.cons (.int 0) (.cons (.int 63) .nil)))) (.cons (.int 0) .nil)))))
 (.cons (.asg (.name 2) (.new false (.disp .nil)))
 (.cons (.asg (.name 3) (.bin .mul (.str " ") (.call "_law_draw" f_Ldraw (.cons (.var 1) (.cons (.int 2) .nil)))))
 (.cons (.for_ (.name 4) (.rng1 (.call "_law_draw" f_Ldraw (.cons (.var 1) (.cons (.int 15) .nil)))) b_law_1)
 (.cons (.ret (.call "_law_same" (f_Lsame 8) (.cons (.call "tokens" f_tokens (.cons (.bin .add (.var 3) (.bin .mul (.str " ") (.call "_law_draw" f_Ldraw (.cons (.var 1) (.cons (.int 2) .nil))))) .nil)) (.cons (.var 2) .nil))))
 .nil)))))
def f_law : Fn := fnOf 1 9 c_law
end MI.K
set_option exponentiation.threshold 5000
namespace MI.K
open PySem PySem.Spec L2
/-! ### sizes -/
theorem log2_lt {n k : Nat} (h : n < 2 ^ k) (hk : 0 < k) : n.log2 < k := by
  by_cases h0 : n = 0
  · subst h0; simpa using hk
  · exact (Nat.log2_lt h0).mpr h
theorem div_ok {j : Int} {k : Nat} (h : j.natAbs < 2 ^ k) (hk : 0 < k) (hb : k ≤ 9000) : divOk j = true := by
  have := log2_lt h hk
  exact decide_eq_true (by omega)
theorem mul_ok {i j : Int} {k l : Nat} (h : i.natAbs < 2 ^ k) (g : j.natAbs < 2 ^ l) (hk : 0 < k) (hl : 0 < l) (hb : k + l ≤ 1000000) : mulOk i j = true := by
  have h1 := log2_lt h hk
  have h2 := log2_lt g hl
  unfold mulOk
  rw [decide_eq_true (show i.natAbs.log2 + j.natAbs.log2 < 1000000 by omega), Bool.or_true]
theorem mul_okl {i j : Int} (h : i.natAbs < 18446744073709551616) : mulOk i j = true := by
  unfold mulOk sm64
  rw [decide_eq_true h]; rfl
theorem mul_okr {i j : Int} (h : j.natAbs < 18446744073709551616) : mulOk i j = true := by
  unfold mulOk sm64
  rw [decide_eq_true h, Bool.or_true]; rfl
theorem forL_inv {f : D → MEnv → Store → Fl} {I : Nat → MEnv → Store → Prop} : ∀ (ds : List D) (j : Nat) (ρ : MEnv) (S : Store), I j ρ S →
    (∀ i d ρ S, ds[i]? = some d → I (j + i) ρ S → ∃ ρ' S', f d ρ S = .nx ρ' S' ∧ I (j + i + 1) ρ' S') → ∃ ρ' S', forL f ds ρ S = .nx ρ' S' ∧ I (j + ds.length) ρ' S'
  | [], j, ρ, S, h, _ => ⟨ρ, S, rfl, h⟩
  | d :: ds, j, ρ, S, h, st => by
    obtain ⟨ρ1, S1, e1, h1⟩ := st 0 d ρ S rfl h
    obtain ⟨ρ2, S2, e2, h2⟩ := forL_inv (f := f) (I := I) ds (j + 1) ρ1 S1 h1 fun i d' ρ' S' hd hi => by
      have := st (i + 1) d' ρ' S' (by simpa using hd) (by rw [show j + (i + 1) = j + 1 + i by omega]; exact hi)
      rw [show j + (i + 1) = j + 1 + i by omega] at this
      exact this
    refine ⟨ρ2, S2, ?_, by rw [List.length_cons, show j + (ds.length + 1) = j + 1 + ds.length by omega]; exact h2⟩
    unfold forL
    rw [e1]
    exact e2
/-- a def's answer, from its body's -/
theorem fn_ret {a k : Nat} {b : CSs} {ds : List D} {S S' : Store} {d : D} (hl : ds.length = a) (h : exs b (ds.map some ++ List.replicate (k - a) none) S = .ret d S') : fnOf a k b ds S = expo S.length d S' := by
  unfold fnOf
  rw [if_pos hl, h]
theorem expo_flat {d : D} {S' : Store} {n : Nat} (h : d.lt n = true) : expo n d S' = .ok d (S'.take n) := by
  unfold expo
  rw [if_pos h]
theorem fn_same {a k : Nat} {b : CSs} {ds : List D} {S S' : Store} {d : D} (hl : ds.length = a) (h : exs b (ds.map some ++ List.replicate (k - a) none) S = .ret d S') (hd : d.lt S.length = true) (hs : S'.length = S.length) : fnOf a k b ds S = .ok d S' := by
  have e := fn_ret hl h
  have e2 := expo_flat (S' := S') hd
  rw [e2, ← hs, List.take_length] at e
  exact e
theorem rangeD_get {lo hi : Int} {j : Nat} {d : D} (h : (rangeD lo hi)[j]? = some d) : d = .int (lo + (j : Nat)) ∧ j < (hi - lo).toNat := by
  unfold rangeD at h
  rw [List.getElem?_map] at h
  cases q : (List.range (hi - lo).toNat)[j]? with
  | none => rw [q] at h; cases h
  | some k =>
    rw [q] at h
    obtain ⟨q1, q2⟩ := List.getElem?_eq_some_iff.mp q
    rw [List.getElem_range] at q2
    subst q2
    simp only [Option.map_some, Option.some.injEq] at h
    exact ⟨h.symm, by simpa using q1⟩
theorem small_ok {n : Nat} (h : n ≤ 1000000) : small62 (n : Int) = true := by
  have h1 : (-(2 ^ 60) : Int) ≤ (n : Int) := Int.le_trans (by decide) (Int.natCast_nonneg n)
  have h2 : (n : Int) < 2 ^ 60 := Int.lt_of_le_of_lt (Int.ofNat_le.mpr h) (by decide)
  unfold small62
  rw [decide_eq_true_eq]
  exact ⟨h1, h2⟩
theorem mul_lt {i j : Int} {k l : Nat} (h : i.natAbs < 2 ^ k) (g : j.natAbs < 2 ^ l) : (i * j).natAbs < 2 ^ (k + l) := by
  rw [Int.natAbs_mul, Nat.pow_add]
  exact Nat.mul_lt_mul'' h g
theorem add_lt {i j : Int} {k : Nat} (h : i.natAbs < 2 ^ k) (g : j.natAbs < 2 ^ k) : (i + j).natAbs < 2 ^ (k + 1) := by
  have := Int.natAbs_add_le i j
  rw [Nat.pow_succ]; omega
theorem sub_lt {i j : Int} {k : Nat} (h : i.natAbs < 2 ^ k) (g : j.natAbs < 2 ^ k) : (i - j).natAbs < 2 ^ (k + 1) := by
  have := Int.natAbs_sub_le i j
  rw [Nat.pow_succ]; omega
theorem nat_abs_lt {i : Int} {n : Nat} (h1 : -(n : Int) < i) (h2 : i < n) : i.natAbs < n := by omega
theorem pw {n k l : Nat} (h : n < 2 ^ k) (hl : k ≤ l) : n < 2 ^ l := Nat.lt_of_lt_of_le h (Nat.pow_le_pow_right (by decide) hl)
theorem small_i {i : Int} (h0 : 0 ≤ i) (h1 : i ≤ 1000000) : small62 i = true := by
  have := small_ok (n := i.toNat) (by omega)
  rw [Int.toNat_of_nonneg h0] at this
  exact this
end MI.K
set_option exponentiation.threshold 5000
namespace MI.K
open PySem PySem.Spec L2
/-! ### the same -/
mutual
def plD : D → Nat → Bool
  | .non, _ => true
  | .bl _, _ => true
  | .int _, _ => true
  | .str _, _ => true
  | .tup ds, n => (match n with | 0 => false | n + 1 => decide (ds.length ≤ 1000000) && plL ds n)
  | .lst ds, n => (match n with | 0 => false | n + 1 => decide (ds.length ≤ 1000000) && plL ds n)
  | _, _ => false
def plL : List D → Nat → Bool
  | [], _ => true
  | d :: ds, n => plD d n && plL ds n
end
theorem plL_get : ∀ {ds : List D} {n i : Nat} {d : D}, plL ds n = true → ds[i]? = some d → plD d n = true
  | d :: ds, n, 0, d', h, e => by
    simp only [plL, Bool.and_eq_true] at h
    simp at e; subst e; exact h.1
  | d :: ds, n, i + 1, d', h, e => by
    simp only [plL, Bool.and_eq_true] at h
    exact plL_get h.2 (by simpa using e)
  | [], _, _, _, _, e => by simp at e
theorem ix_seq {x : D} {ds : List D} {S : Store} {i : Int} {j : Nat} {d : D} (hx : x = .tup ds ∨ x = .lst ds) (hi : i = (j : Nat)) (hd : ds[j]? = some d) : ixD x (.int i) S = some d := by
  subst hi
  rcases hx with rfl | rfl
  · show atI ds (j : Int) = some d
    exact atI_nat hd
  · show atI ds (j : Int) = some d
    exact atI_nat hd
abbrev sb (g : Fn) : CSs := b_Lsame_1 g
theorem same_turn {g : Fn} {x : D} {ds : List D} {S : Store} {t : Option D} {i : Int} {j : Nat} {d : D} (hx : x = .tup ds ∨ x = .lst ds) (hi : i = (j : Nat)) (hd : ds[j]? = some d) (hg : g [d, d] S = .ok (.bl true) S) :
    exs (sb g) [some x, some x, some (.int i)] S = .nx [some x, some x, some (.int i)] S := by
  have e := ix_seq (S := S) hx hi hd
  simp only [sb, b_Lsame_1, bind_ok, fl_ok, of_some, seq_nx, seq_ret, pick_t, pick_f, getV_ok, putE_ok, putS_ok, ev_var, ev_non, ev_bl, ev_int, ev_str, ev_glob, ev_bin, ev_cmp, negD_int, ev_neg, notD_bl, ev_not, ev_band, ev_bor, pickE_t, pickE_f, and_1, and_c, or_1, or_c, ev_chain, ev_isN, ev_notN, ev_ite, ev_call, ev_bi, ev_tup, ev_new, new_f, ev_dnewK, ev_dnewT, ev_ix, ev_sl, ev_frz, evs_nil, evs_cons, evN_n, intN_int, evN_s, evO_n, evO_s, evL_disp, ev_join, joinM_s, evL_sorted, evL_sortk, evL_list, evL_keys, seq_lst, seq_tup, ex_putp, evL_cm, evI_seq, evI_rng1, evI_rng2, evI_enum, exs_nil, exs_cons, exs_frz, ex_asg, setT_n, ex_par, ex_put, ex_aug, augD_ok, ex_drop, ex_app, ex_ifs, ex_for, ex_while, ex_ret, ex_retN, ex_pass, unlock_nx, unlock_ret, lock_seq, lock_rng1, lock_rng2, lock_enum, lock_text, cmp_lt, cmp_le, cmp_gt, cmp_ge, cmp_eqi, cmp_nei, cmp_eqb, cmp_neb, b_add, b_sub, bi_abs, bi_int, len_lst, len_tup, len_scr, ix_lst, ix_tup, ix_scr, at_0, at_1, at_2, at_3, isN_non, isN_int, isN_tup, isN_lst, isN_str, isN_bl, List.getElem?_cons_succ, List.getElem?_cons_zero, Option.map_some, List.set_cons_succ, List.set_cons_zero, e, hg]
  rfl
def isLb (x : D) : Bool := match x with | .lst _ => true | _ => false
def isTb (x : D) : Bool := match x with | .tup _ => true | _ => false
theorem same_loop {g : Fn} {x : D} {ds : List D} {n : Nat} (hx : x = .tup ds ∨ x = .lst ds) (hl : ds.length ≤ 1000000) (hp : plL ds n = true) (S : Store) (hg : ∀ d, plD d n = true → g [d, d] S = .ok (.bl true) S) :
    exs (c_Lsame g) [some x, some x, none] S = .ret (.bl true) S := by
  have e1 : biD .isList [x] S = some (.bl (isLb x)) := by rcases hx with rfl | rfl <;> rfl
  have e2 : biD .isTuple [x] S = some (.bl (isTb x)) := by rcases hx with rfl | rfl <;> rfl
  have e3 : biD .len [x] S = some (.int ds.length) := by rcases hx with rfl | rfl <;> rfl
  have e4 : ∀ b : Bool, eqv (.bl b) (.bl b) = some true := fun b => by cases b <;> rfl
  have e5 : ∀ i : Int, eqv (.int i) (.int i) = some true := fun i => by
    show some (i == i) = _
    rw [beq_self_eq_true]
  have e6 : small62 (ds.length : Int) = true := small_ok hl
  obtain ⟨ρ', S', h1, h2⟩ := forL_inv (f := turnF (.name 2) (sb g)) (I := fun _ ρ S' => (∃ t, ρ = [some x, some x, t]) ∧ S' = S) (rangeD 0 ds.length) 0 [some x, some x, none] S ⟨⟨_, rfl⟩, rfl⟩ (by
    rintro i d ρ S' hd ⟨⟨t, rfl⟩, rfl⟩
    obtain ⟨rfl, hj⟩ := rangeD_get hd
    have hj' : i < ds.length := by omega
    refine ⟨_, _, same_turn (t := none) hx (by omega) (List.getElem?_eq_getElem hj') (hg _ (plL_get hp (List.getElem?_eq_getElem hj'))), ⟨_, rfl⟩, rfl⟩)
  obtain ⟨⟨t, rfl⟩, rfl⟩ := h2
  unfold c_Lsame
  rcases hx with rfl | rfl
  · simp only [bind_ok, fl_ok, of_some, seq_nx, seq_ret, pick_t, pick_f, getV_ok, putE_ok, putS_ok, ev_var, ev_non, ev_bl, ev_int, ev_str, ev_glob, ev_bin, ev_cmp, negD_int, ev_neg, notD_bl, ev_not, ev_band, ev_bor, pickE_t, pickE_f, and_1, and_c, or_1, or_c, ev_chain, ev_isN, ev_notN, ev_ite, ev_call, ev_bi, ev_tup, ev_new, new_f, ev_dnewK, ev_dnewT, ev_ix, ev_sl, ev_frz, evs_nil, evs_cons, evN_n, intN_int, evN_s, evO_n, evO_s, evL_disp, ev_join, joinM_s, evL_sorted, evL_sortk, evL_list, evL_keys, seq_lst, seq_tup, ex_putp, evL_cm, evI_seq, evI_rng1, evI_rng2, evI_enum, exs_nil, exs_cons, exs_frz, ex_asg, setT_n, ex_par, ex_put, ex_aug, augD_ok, ex_drop, ex_app, ex_ifs, ex_for, ex_while, ex_ret, ex_retN, ex_pass, unlock_nx, unlock_ret, lock_seq, lock_rng1, lock_rng2, lock_enum, lock_text, cmp_lt, cmp_le, cmp_gt, cmp_ge, cmp_eqi, cmp_nei, cmp_eqb, cmp_neb, b_add, b_sub, bi_abs, bi_int, len_lst, len_tup, len_scr, ix_lst, ix_tup, ix_scr, at_0, at_1, at_2, at_3, isN_non, isN_int, isN_tup, isN_lst, isN_str, isN_bl, List.getElem?_cons_succ, List.getElem?_cons_zero, Option.map_some, List.set_cons_succ, List.set_cons_zero, e1, e2, e3, e4, e5, Bool.not_true, rngD_ok e6, h1, isLb, isTb, cmp_eqb, cmp_neb, beq_self_eq_true]
  · simp only [bind_ok, fl_ok, of_some, seq_nx, seq_ret, pick_t, pick_f, getV_ok, putE_ok, putS_ok, ev_var, ev_non, ev_bl, ev_int, ev_str, ev_glob, ev_bin, ev_cmp, negD_int, ev_neg, notD_bl, ev_not, ev_band, ev_bor, pickE_t, pickE_f, and_1, and_c, or_1, or_c, ev_chain, ev_isN, ev_notN, ev_ite, ev_call, ev_bi, ev_tup, ev_new, new_f, ev_dnewK, ev_dnewT, ev_ix, ev_sl, ev_frz, evs_nil, evs_cons, evN_n, intN_int, evN_s, evO_n, evO_s, evL_disp, ev_join, joinM_s, evL_sorted, evL_sortk, evL_list, evL_keys, seq_lst, seq_tup, ex_putp, evL_cm, evI_seq, evI_rng1, evI_rng2, evI_enum, exs_nil, exs_cons, exs_frz, ex_asg, setT_n, ex_par, ex_put, ex_aug, augD_ok, ex_drop, ex_app, ex_ifs, ex_for, ex_while, ex_ret, ex_retN, ex_pass, unlock_nx, unlock_ret, lock_seq, lock_rng1, lock_rng2, lock_enum, lock_text, cmp_lt, cmp_le, cmp_gt, cmp_ge, cmp_eqi, cmp_nei, cmp_eqb, cmp_neb, b_add, b_sub, bi_abs, bi_int, len_lst, len_tup, len_scr, ix_lst, ix_tup, ix_scr, at_0, at_1, at_2, at_3, isN_non, isN_int, isN_tup, isN_lst, isN_str, isN_bl, List.getElem?_cons_succ, List.getElem?_cons_zero, Option.map_some, List.set_cons_succ, List.set_cons_zero, e1, e2, e3, e4, e5, Bool.not_true, rngD_ok e6, h1, isLb, isTb, cmp_eqb, cmp_neb, beq_self_eq_true]
theorem r_same : ∀ (n : Nat) (d : D) (S : Store), plD d n = true → f_Lsame (n + 1) [d, d] S = .ok (.bl true) S := fun n => by
  induction n with
  | zero =>
    intro d S h
    refine fn_same (k := 3) (S' := S) rfl ?_ rfl rfl
    cases d with
    | non => rfl
    | bl b =>
      show Fl.ret (.bl (b == b)) S = _
      rw [beq_self_eq_true]
    | int i =>
      show Fl.ret (.bl (i == i)) S = _
      rw [beq_self_eq_true]
    | str z =>
      show Fl.ret (.bl (z == z)) S = _
      rw [beq_self_eq_true]
    | _ => simp [plD] at h
  | succ n ih =>
    intro d S h
    refine fn_same (k := 3) (S' := S) rfl ?_ rfl rfl
    cases d with
    | non => rfl
    | bl b =>
      show Fl.ret (.bl (b == b)) S = _
      rw [beq_self_eq_true]
    | int i =>
      show Fl.ret (.bl (i == i)) S = _
      rw [beq_self_eq_true]
    | str z =>
      show Fl.ret (.bl (z == z)) S = _
      rw [beq_self_eq_true]
    | tup ds =>
      simp only [plD, Bool.and_eq_true, decide_eq_true_eq] at h
      exact same_loop (.inl rfl) h.1 h.2 S fun d hd => ih d S hd
    | lst ds =>
      simp only [plD, Bool.and_eq_true, decide_eq_true_eq] at h
      exact same_loop (.inr rfl) h.1 h.2 S fun d hd => ih d S hd
    | _ => simp [plD] at h
end MI.K
set_option exponentiation.threshold 5000
namespace MI.K
open PySem PySem.Spec L2
/-! ### draws -/
def bxC (ds : List Int) (k : Nat) : Cell := .lst [.lst (ds.map .int), .int (k : Int)]
def drw (ds : List Int) (k : Nat) (m : Int) : Int := if (k : Int) < ds.length then ds.getD k 0 % m else 0
theorem drw_lt {ds : List Int} {k : Nat} {m : Int} (h : 0 < m) : 0 ≤ drw ds k m ∧ drw ds k m < m := by
  unfold drw
  split
  · exact ⟨Int.emod_nonneg _ (by omega), Int.emod_lt_of_pos _ h⟩
  · exact ⟨Int.le_refl _, h⟩
theorem take_self {α : Type} {l l' : List α} (h : l'.length = l.length) : l'.take l.length = l' := by rw [← h, List.take_length]
theorem r_Ldraw {ds : List Int} {k : Nat} {m : Int} {T : Store} (hm : 0 < m) : f_Ldraw [.ptr 0, .int m] (bxC ds k :: T) = .ok (.int (drw ds k m)) (bxC ds (k + 1) :: T) := by
  refine fn_same (k := 3) rfl ?_ rfl rfl
  have e1 : ∀ k' j, ixD (.ptr 0) (.int j) (bxC ds k' :: T) = atI [.lst (ds.map .int), .int (k' : Int)] j := fun k' j => ix_ptr rfl
  have e2 : (if isDict (.ptr 0) (bxC ds k :: T) then dPut (.ptr 0) (.int 1) (.int ((k : Int) + 1)) (bxC ds k :: T) else putL (.ptr 0) (.int 1) (.int ((k : Int) + 1)) (bxC ds k :: T)) = some (bxC ds (k + 1) :: T) :=
    put_l (m := 1) (ds := [.lst (ds.map .int), .int (k : Int)]) rfl rfl rfl (show 1 < 2 by decide)
  show exs c_Ldraw [some (.ptr 0), some (.int m), none] (bxC ds k :: T) = _
  unfold c_Ldraw
  by_cases h : (k : Int) < (ds.length : Int)
  · have hk2 : k < ds.length := by omega
    have e3 : atI (ds.map D.int) (k : Int) = some (.int (ds.getD k 0)) :=
      atI_nat (by rw [List.getElem?_map, List.getElem?_eq_getElem hk2]; simp [hk2])
    simp only [bind_ok, fl_ok, of_some, seq_nx, seq_ret, pick_t, pick_f, getV_ok, putE_ok, putS_ok, ev_var, ev_non, ev_bl, ev_int, ev_str, ev_glob, ev_bin, ev_cmp, negD_int, ev_neg, notD_bl, ev_not, ev_band, ev_bor, pickE_t, pickE_f, and_1, and_c, or_1, or_c, ev_chain, ev_isN, ev_notN, ev_ite, ev_call, ev_bi, ev_tup, ev_new, new_f, ev_dnewK, ev_dnewT, ev_ix, ev_sl, ev_frz, evs_nil, evs_cons, evN_n, intN_int, evN_s, evO_n, evO_s, evL_disp, ev_join, joinM_s, evL_sorted, evL_sortk, evL_list, evL_keys, seq_lst, seq_tup, ex_putp, evL_cm, evI_seq, evI_rng1, evI_rng2, evI_enum, exs_nil, exs_cons, exs_frz, ex_asg, setT_n, ex_par, ex_put, ex_aug, augD_ok, ex_drop, ex_app, ex_ifs, ex_for, ex_while, ex_ret, ex_retN, ex_pass, unlock_nx, unlock_ret, lock_seq, lock_rng1, lock_rng2, lock_enum, lock_text, cmp_lt, cmp_le, cmp_gt, cmp_ge, cmp_eqi, cmp_nei, cmp_eqb, cmp_neb, b_add, b_sub, bi_abs, bi_int, len_lst, len_tup, len_scr, ix_lst, ix_tup, ix_scr, at_0, at_1, at_2, at_3, isN_non, isN_int, isN_tup, isN_lst, isN_str, isN_bl, List.getElem?_cons_succ, List.getElem?_cons_zero, Option.map_some, List.set_cons_succ, List.set_cons_zero, e1, e2, e3, h, decide_true, List.length_map, b_mod hm, drw, if_true]
  · simp only [bind_ok, fl_ok, of_some, seq_nx, seq_ret, pick_t, pick_f, getV_ok, putE_ok, putS_ok, ev_var, ev_non, ev_bl, ev_int, ev_str, ev_glob, ev_bin, ev_cmp, negD_int, ev_neg, notD_bl, ev_not, ev_band, ev_bor, pickE_t, pickE_f, and_1, and_c, or_1, or_c, ev_chain, ev_isN, ev_notN, ev_ite, ev_call, ev_bi, ev_tup, ev_new, new_f, ev_dnewK, ev_dnewT, ev_ix, ev_sl, ev_frz, evs_nil, evs_cons, evN_n, intN_int, evN_s, evO_n, evO_s, evL_disp, ev_join, joinM_s, evL_sorted, evL_sortk, evL_list, evL_keys, seq_lst, seq_tup, ex_putp, evL_cm, evI_seq, evI_rng1, evI_rng2, evI_enum, exs_nil, exs_cons, exs_frz, ex_asg, setT_n, ex_par, ex_put, ex_aug, augD_ok, ex_drop, ex_app, ex_ifs, ex_for, ex_while, ex_ret, ex_retN, ex_pass, unlock_nx, unlock_ret, lock_seq, lock_rng1, lock_rng2, lock_enum, lock_text, cmp_lt, cmp_le, cmp_gt, cmp_ge, cmp_eqi, cmp_nei, cmp_eqb, cmp_neb, b_add, b_sub, bi_abs, bi_int, len_lst, len_tup, len_scr, ix_lst, ix_tup, ix_scr, at_0, at_1, at_2, at_3, isN_non, isN_int, isN_tup, isN_lst, isN_str, isN_bl, List.getElem?_cons_succ, List.getElem?_cons_zero, Option.map_some, List.set_cons_succ, List.set_cons_zero, e1, e2, h, decide_false, List.length_map, drw, if_false]
theorem cell_0 {l : List D} {T : Store} : isCellL (.ptr 0) (.lst l :: T) = true := (rfl)
theorem cell_1 {c0 : Cell} {l : List D} {T : Store} : isCellL (.ptr 1) (c0 :: .lst l :: T) = true := (rfl)
theorem cell_2 {c0 c1 : Cell} {l : List D} {T : Store} : isCellL (.ptr 2) (c0 :: c1 :: .lst l :: T) = true := (rfl)
theorem cell_3 {c0 c1 c2 : Cell} {l : List D} {T : Store} : isCellL (.ptr 3) (c0 :: c1 :: c2 :: .lst l :: T) = true := (rfl)
theorem cell_4 {c0 c1 c2 c3 : Cell} {l : List D} {T : Store} : isCellL (.ptr 4) (c0 :: c1 :: c2 :: c3 :: .lst l :: T) = true := (rfl)
theorem cell_5 {c0 c1 c2 c3 c4 : Cell} {l : List D} {T : Store} : isCellL (.ptr 5) (c0 :: c1 :: c2 :: c3 :: c4 :: .lst l :: T) = true := (rfl)
theorem app_1 {d : D} {c0 : Cell} {l : List D} {T : Store} (h : d.lt 1 = true) (hl : l.length < 1000000) : appL (.ptr 1) d (c0 :: .lst l :: T) = some (c0 :: .lst (l ++ [d]) :: T) := app_l (n := 1) rfl h hl
theorem app_2 {d : D} {c0 c1 : Cell} {l : List D} {T : Store} (h : d.lt 2 = true) (hl : l.length < 1000000) : appL (.ptr 2) d (c0 :: c1 :: .lst l :: T) = some (c0 :: c1 :: .lst (l ++ [d]) :: T) := app_l (n := 2) rfl h hl
theorem app_3 {d : D} {c0 c1 c2 : Cell} {l : List D} {T : Store} (h : d.lt 3 = true) (hl : l.length < 1000000) : appL (.ptr 3) d (c0 :: c1 :: c2 :: .lst l :: T) = some (c0 :: c1 :: c2 :: .lst (l ++ [d]) :: T) := app_l (n := 3) rfl h hl
theorem app_4 {d : D} {c0 c1 c2 c3 : Cell} {l : List D} {T : Store} (h : d.lt 4 = true) (hl : l.length < 1000000) : appL (.ptr 4) d (c0 :: c1 :: c2 :: c3 :: .lst l :: T) = some (c0 :: c1 :: c2 :: c3 :: .lst (l ++ [d]) :: T) := app_l (n := 4) rfl h hl
theorem app_5 {d : D} {c0 c1 c2 c3 c4 : Cell} {l : List D} {T : Store} (h : d.lt 5 = true) (hl : l.length < 1000000) : appL (.ptr 5) d (c0 :: c1 :: c2 :: c3 :: c4 :: .lst l :: T) = some (c0 :: c1 :: c2 :: c3 :: c4 :: .lst (l ++ [d]) :: T) := app_l (n := 5) rfl h hl
end MI.K
set_option exponentiation.threshold 5000
namespace MI.K
open PySem PySem.Spec L2
theorem r_Lcell {ns : List Int} {i : Int} {S : Store} (hi : 0 ≤ i) : ∃ c, f_Lcell [.scr (ns.map .int), .int i] S = .ok (.int c) S := by
  by_cases h : i < (ns.length : Int)
  · have hk2 : i.toNat < ns.length := by omega
    have e3 : atI (ns.map D.int) i = some (.int ns[i.toNat]) := by
      have := atI_nat (xs := ns.map D.int) (j := i.toNat) (v := .int ns[i.toNat]) (by rw [List.getElem?_map, List.getElem?_eq_getElem hk2]; rfl)
      rw [Int.toNat_of_nonneg hi] at this
      exact this
    refine ⟨ns[i.toNat], fn_same (k := 2) rfl ?_ rfl rfl⟩
    show exs c_Lcell [some (.scr (ns.map .int)), some (.int i)] S = _
    unfold c_Lcell
    simp only [bind_ok, fl_ok, of_some, seq_nx, seq_ret, pick_t, pick_f, getV_ok, putE_ok, putS_ok, ev_var, ev_non, ev_bl, ev_int, ev_str, ev_glob, ev_bin, ev_cmp, negD_int, ev_neg, notD_bl, ev_not, ev_band, ev_bor, pickE_t, pickE_f, and_1, and_c, or_1, or_c, ev_chain, ev_isN, ev_notN, ev_ite, ev_call, ev_bi, ev_tup, ev_new, new_f, ev_dnewK, ev_dnewT, ev_ix, ev_sl, ev_frz, evs_nil, evs_cons, evN_n, intN_int, evN_s, evO_n, evO_s, evL_disp, ev_join, joinM_s, evL_sorted, evL_sortk, evL_list, evL_keys, seq_lst, seq_tup, ex_putp, evL_cm, evI_seq, evI_rng1, evI_rng2, evI_enum, exs_nil, exs_cons, exs_frz, ex_asg, setT_n, ex_par, ex_put, ex_aug, augD_ok, ex_drop, ex_app, ex_ifs, ex_for, ex_while, ex_ret, ex_retN, ex_pass, unlock_nx, unlock_ret, lock_seq, lock_rng1, lock_rng2, lock_enum, lock_text, cmp_lt, cmp_le, cmp_gt, cmp_ge, cmp_eqi, cmp_nei, cmp_eqb, cmp_neb, b_add, b_sub, bi_abs, bi_int, len_lst, len_tup, len_scr, ix_lst, ix_tup, ix_scr, at_0, at_1, at_2, at_3, isN_non, isN_int, isN_tup, isN_lst, isN_str, isN_bl, List.getElem?_cons_succ, List.getElem?_cons_zero, Option.map_some, List.set_cons_succ, List.set_cons_zero, e3, h, decide_true, List.length_map]
  · refine ⟨0, fn_same (k := 2) rfl ?_ rfl rfl⟩
    show exs c_Lcell [some (.scr (ns.map .int)), some (.int i)] S = _
    unfold c_Lcell
    simp only [bind_ok, fl_ok, of_some, seq_nx, seq_ret, pick_t, pick_f, getV_ok, putE_ok, putS_ok, ev_var, ev_non, ev_bl, ev_int, ev_str, ev_glob, ev_bin, ev_cmp, negD_int, ev_neg, notD_bl, ev_not, ev_band, ev_bor, pickE_t, pickE_f, and_1, and_c, or_1, or_c, ev_chain, ev_isN, ev_notN, ev_ite, ev_call, ev_bi, ev_tup, ev_new, new_f, ev_dnewK, ev_dnewT, ev_ix, ev_sl, ev_frz, evs_nil, evs_cons, evN_n, intN_int, evN_s, evO_n, evO_s, evL_disp, ev_join, joinM_s, evL_sorted, evL_sortk, evL_list, evL_keys, seq_lst, seq_tup, ex_putp, evL_cm, evI_seq, evI_rng1, evI_rng2, evI_enum, exs_nil, exs_cons, exs_frz, ex_asg, setT_n, ex_par, ex_put, ex_aug, augD_ok, ex_drop, ex_app, ex_ifs, ex_for, ex_while, ex_ret, ex_retN, ex_pass, unlock_nx, unlock_ret, lock_seq, lock_rng1, lock_rng2, lock_enum, lock_text, cmp_lt, cmp_le, cmp_gt, cmp_ge, cmp_eqi, cmp_nei, cmp_eqb, cmp_neb, b_add, b_sub, bi_abs, bi_int, len_lst, len_tup, len_scr, ix_lst, ix_tup, ix_scr, at_0, at_1, at_2, at_3, isN_non, isN_int, isN_tup, isN_lst, isN_str, isN_bl, List.getElem?_cons_succ, List.getElem?_cons_zero, Option.map_some, List.set_cons_succ, List.set_cons_zero, h, decide_false, List.length_map]
/-! ### the digits -/
abbrev dS (acc : List Int) : Store := [.lst (acc.map .int)]
theorem app_ok {acc : List Int} {i : Int} (h : acc.length < 1000000) : appL (.ptr 0) (.int i) (dS acc) = some (dS (acc ++ [i])) := by
  rw [app_l rfl rfl (by simpa using h)]
  simp [dS]
theorem dig_a {s lo hi x7 : Option D} : ∀ (items : List D) (k cell : Int) (x6 : Option D) (acc : List Int), 0 ≤ cell → acc.length + items.length < 1000000 →
    ∃ x6' cell' acc', forL (turnF (.name 6) b_Ldigits_1) items [s, lo, hi, some (.ptr 0), some (.int k), some (.int cell), x6, x7] (dS acc) = .nx [s, lo, hi, some (.ptr 0), some (.int k), some (.int cell'), x6', x7] (dS acc') ∧ acc'.length ≤ acc.length + items.length
  | [], k, cell, x6, acc, _, hl => ⟨x6, cell, acc, rfl, Nat.le_refl _⟩
  | d :: items, k, cell, x6, acc, hc, hl => by
    rw [List.length_cons] at hl
    by_cases h : 0 < cell
    · obtain ⟨a, b, c, q1, q2⟩ := dig_a (s := s) (lo := lo) (hi := hi) (x7 := x7) items k (cell / 1000) (some d) (acc ++ [cell % 1000]) (Int.ediv_nonneg hc (by decide)) (by rw [List.length_append]; simp; omega)
      refine ⟨a, b, c, ?_, by rw [List.length_append] at q2; simp at q2 ⊢; omega⟩
      have e : turnF (.name 6) b_Ldigits_1 d [s, lo, hi, some (.ptr 0), some (.int k), some (.int cell), x6, x7] (dS acc) = .nx [s, lo, hi, some (.ptr 0), some (.int k), some (.int (cell / 1000)), some d, x7] (dS (acc ++ [cell % 1000])) := by
        show exs b_Ldigits_1 [s, lo, hi, some (.ptr 0), some (.int k), some (.int cell), some d, x7] (dS acc) = _
        unfold b_Ldigits_1
        simp only [bind_ok, fl_ok, of_some, seq_nx, seq_ret, pick_t, pick_f, getV_ok, putE_ok, putS_ok, ev_var, ev_non, ev_bl, ev_int, ev_str, ev_glob, ev_bin, ev_cmp, negD_int, ev_neg, notD_bl, ev_not, ev_band, ev_bor, pickE_t, pickE_f, and_1, and_c, or_1, or_c, ev_chain, ev_isN, ev_notN, ev_ite, ev_call, ev_bi, ev_tup, ev_new, new_f, ev_dnewK, ev_dnewT, ev_ix, ev_sl, ev_frz, evs_nil, evs_cons, evN_n, intN_int, evN_s, evO_n, evO_s, evL_disp, ev_join, joinM_s, evL_sorted, evL_sortk, evL_list, evL_keys, seq_lst, seq_tup, ex_putp, evL_cm, evI_seq, evI_rng1, evI_rng2, evI_enum, exs_nil, exs_cons, exs_frz, ex_asg, setT_n, ex_par, ex_put, ex_aug, augD_ok, ex_drop, ex_app, ex_ifs, ex_for, ex_while, ex_ret, ex_retN, ex_pass, unlock_nx, unlock_ret, lock_seq, lock_rng1, lock_rng2, lock_enum, lock_text, cmp_lt, cmp_le, cmp_gt, cmp_ge, cmp_eqi, cmp_nei, cmp_eqb, cmp_neb, b_add, b_sub, bi_abs, bi_int, len_lst, len_tup, len_scr, ix_lst, ix_tup, ix_scr, at_0, at_1, at_2, at_3, isN_non, isN_int, isN_tup, isN_lst, isN_str, isN_bl, List.getElem?_cons_succ, List.getElem?_cons_zero, Option.map_some, List.set_cons_succ, List.set_cons_zero, h, decide_true, show isCellL (.ptr 0) (dS acc) = true from rfl, if_true, b_mod (show (0 : Int) < 1000 by decide), app_ok (show acc.length < 1000000 by omega), b_div (show (0 : Int) < 1000 by decide) (show divOk 1000 = true by decide +kernel)]
      unfold forL
      rw [e]
      exact q1
    · obtain ⟨a, b, c, q1, q2⟩ := dig_a (s := s) (lo := lo) (hi := hi) (x7 := x7) items k cell (some d) acc hc (by omega)
      refine ⟨a, b, c, ?_, by simp; omega⟩
      have e : turnF (.name 6) b_Ldigits_1 d [s, lo, hi, some (.ptr 0), some (.int k), some (.int cell), x6, x7] (dS acc) = .nx [s, lo, hi, some (.ptr 0), some (.int k), some (.int cell), some d, x7] (dS acc) := by
        show exs b_Ldigits_1 [s, lo, hi, some (.ptr 0), some (.int k), some (.int cell), some d, x7] (dS acc) = _
        unfold b_Ldigits_1
        simp only [bind_ok, fl_ok, of_some, seq_nx, seq_ret, pick_t, pick_f, getV_ok, putE_ok, putS_ok, ev_var, ev_non, ev_bl, ev_int, ev_str, ev_glob, ev_bin, ev_cmp, negD_int, ev_neg, notD_bl, ev_not, ev_band, ev_bor, pickE_t, pickE_f, and_1, and_c, or_1, or_c, ev_chain, ev_isN, ev_notN, ev_ite, ev_call, ev_bi, ev_tup, ev_new, new_f, ev_dnewK, ev_dnewT, ev_ix, ev_sl, ev_frz, evs_nil, evs_cons, evN_n, intN_int, evN_s, evO_n, evO_s, evL_disp, ev_join, joinM_s, evL_sorted, evL_sortk, evL_list, evL_keys, seq_lst, seq_tup, ex_putp, evL_cm, evI_seq, evI_rng1, evI_rng2, evI_enum, exs_nil, exs_cons, exs_frz, ex_asg, setT_n, ex_par, ex_put, ex_aug, augD_ok, ex_drop, ex_app, ex_ifs, ex_for, ex_while, ex_ret, ex_retN, ex_pass, unlock_nx, unlock_ret, lock_seq, lock_rng1, lock_rng2, lock_enum, lock_text, cmp_lt, cmp_le, cmp_gt, cmp_ge, cmp_eqi, cmp_nei, cmp_eqb, cmp_neb, b_add, b_sub, bi_abs, bi_int, len_lst, len_tup, len_scr, ix_lst, ix_tup, ix_scr, at_0, at_1, at_2, at_3, isN_non, isN_int, isN_tup, isN_lst, isN_str, isN_bl, List.getElem?_cons_succ, List.getElem?_cons_zero, Option.map_some, List.set_cons_succ, List.set_cons_zero, h, decide_false]
      unfold forL
      rw [e]
      exact q1
theorem dig_b {s lo hi x5 : Option D} : ∀ (items : List Int) (k seed : Int) (x6 : Option D) (acc : List Int), acc.length + items.length < 1000000 →
    ∃ x6' seed' acc', forL (turnF (.name 6) b_Ldigits_2) (items.map .int) [s, lo, hi, some (.ptr 0), some (.int k), x5, x6, some (.int seed)] (dS acc) = .nx [s, lo, hi, some (.ptr 0), some (.int k), x5, x6', some (.int seed')] (dS acc') ∧ acc'.length ≤ acc.length + items.length
  | [], k, seed, x6, acc, hl => ⟨x6, seed, acc, rfl, Nat.le_refl _⟩
  | d :: items, k, seed, x6, acc, hl => by
    rw [List.length_cons] at hl
    obtain ⟨a, b, c, q1, q2⟩ := dig_b (s := s) (lo := lo) (hi := hi) (x5 := x5) items k ((seed * 16807 + 7 * d + 1) % 2147483647) (some (.int d)) (acc ++ [((seed * 16807 + 7 * d + 1) % 2147483647) / 997 % 1000]) (by rw [List.length_append]; simp; omega)
    refine ⟨a, b, c, ?_, by rw [List.length_append] at q2; simp at q2 ⊢; omega⟩
    have e : turnF (.name 6) b_Ldigits_2 (.int d) [s, lo, hi, some (.ptr 0), some (.int k), x5, x6, some (.int seed)] (dS acc) = .nx [s, lo, hi, some (.ptr 0), some (.int k), x5, some (.int d), some (.int ((seed * 16807 + 7 * d + 1) % 2147483647))] (dS (acc ++ [((seed * 16807 + 7 * d + 1) % 2147483647) / 997 % 1000])) := by
      show exs b_Ldigits_2 [s, lo, hi, some (.ptr 0), some (.int k), x5, some (.int d), some (.int seed)] (dS acc) = _
      unfold b_Ldigits_2
      simp only [bind_ok, fl_ok, of_some, seq_nx, seq_ret, pick_t, pick_f, getV_ok, putE_ok, putS_ok, ev_var, ev_non, ev_bl, ev_int, ev_str, ev_glob, ev_bin, ev_cmp, negD_int, ev_neg, notD_bl, ev_not, ev_band, ev_bor, pickE_t, pickE_f, and_1, and_c, or_1, or_c, ev_chain, ev_isN, ev_notN, ev_ite, ev_call, ev_bi, ev_tup, ev_new, new_f, ev_dnewK, ev_dnewT, ev_ix, ev_sl, ev_frz, evs_nil, evs_cons, evN_n, intN_int, evN_s, evO_n, evO_s, evL_disp, ev_join, joinM_s, evL_sorted, evL_sortk, evL_list, evL_keys, seq_lst, seq_tup, ex_putp, evL_cm, evI_seq, evI_rng1, evI_rng2, evI_enum, exs_nil, exs_cons, exs_frz, ex_asg, setT_n, ex_par, ex_put, ex_aug, augD_ok, ex_drop, ex_app, ex_ifs, ex_for, ex_while, ex_ret, ex_retN, ex_pass, unlock_nx, unlock_ret, lock_seq, lock_rng1, lock_rng2, lock_enum, lock_text, cmp_lt, cmp_le, cmp_gt, cmp_ge, cmp_eqi, cmp_nei, cmp_eqb, cmp_neb, b_add, b_sub, bi_abs, bi_int, len_lst, len_tup, len_scr, ix_lst, ix_tup, ix_scr, at_0, at_1, at_2, at_3, isN_non, isN_int, isN_tup, isN_lst, isN_str, isN_bl, List.getElem?_cons_succ, List.getElem?_cons_zero, Option.map_some, List.set_cons_succ, List.set_cons_zero, show isCellL (.ptr 0) (dS acc) = true from rfl, if_true, b_mod (show (0 : Int) < 1000 by decide), b_mod (show (0 : Int) < 2147483647 by decide), app_ok (show acc.length < 1000000 by omega), b_div (show (0 : Int) < 997 by decide) (show divOk 997 = true by decide +kernel), b_mul (mul_okr (show (16807 : Int).natAbs < 18446744073709551616 by decide)), b_mul (mul_okl (show (7 : Int).natAbs < 18446744073709551616 by decide))]
    show forL _ (.int d :: items.map .int) _ _ = _
    unfold forL
    rw [e]
    exact q1
/-- one turn over the script -/
theorem dig_turn {ns : List Int} {lo hi x5 x6 x7 x4 : Option D} {k : Int} {acc : List Int} (hk : 0 ≤ k) (hk2 : k < 1000000) (hl : acc.length + 60 < 1000000) : ∃ x5' x6' x7' acc', turnF (.name 4) b_Ldigits_3 (.int k) [some (.scr (ns.map .int)), lo, hi, some (.ptr 0), x4, x5, x6, x7] (dS acc) =
    .nx [some (.scr (ns.map .int)), lo, hi, some (.ptr 0), some (.int k), x5', x6', x7'] (dS acc') ∧ acc'.length ≤ acc.length + 60 := by
  obtain ⟨c, hc⟩ := r_Lcell (ns := ns) (S := dS acc) hk
  have e10 : binD .pow (.int 10) (.int 18) (dS acc) = some (.int 1000000000000000000) := by
    show (if (0 : Int) ≤ 18 ∧ (18 : Int) ≤ 1000 ∧ (10 : Int).natAbs < 18446744073709551616 then some (D.int ((10 : Int) ^ (18 : Int).toNat)) else none) = _
    rw [if_pos (by decide)]
    rfl
  have m60 : small62 60 = true := by decide +kernel
  have m12 : small62 12 = true := by decide +kernel
  have er : rangeD 0 12 = ((List.range 12).map fun (i : Nat) => (0 + (i : Int))).map .int := by rw [List.map_map]; rfl
  have u1 : (2 : Int).natAbs < 18446744073709551616 := by decide
  have u2 : (48271 : Int).natAbs < 18446744073709551616 := by decide
  have u3 : (69621 : Int).natAbs < 18446744073709551616 := by decide
  have u4 : (0 : Int) < 2147483647 := by decide
  show ∃ x5' x6' x7' acc', exs b_Ldigits_3 [some (.scr (ns.map .int)), lo, hi, some (.ptr 0), some (.int k), x5, x6, x7] (dS acc) = _ ∧ _
  unfold b_Ldigits_3
  have da := fun cell h0 => dig_a (s := some (.scr (ns.map .int))) (lo := lo) (hi := hi) (x7 := x7) (rangeD 0 60) k cell x6 acc h0 (by rw [rangeD_len]; show acc.length + 60 < _; omega)
  have db := fun cell => dig_b (s := some (.scr (ns.map .int))) (lo := lo) (hi := hi) (x5 := some (.int cell)) ((List.range 12).map fun (i : Nat) => (0 + (i : Int))) k ((cell * 48271 + k * 69621 + 11) % 2147483647) x6 acc (by simp; omega)
  rw [← er] at db
  by_cases hn : c < 0
  · by_cases h : (1000000000000000000 : Int) ≤ 1 - 2 * c
    · obtain ⟨a, b, c', q1, q2⟩ := da (1 - 2 * c) (by omega)
      rw [rangeD_len] at q2
      exact ⟨some (.int b), a, x7, c', by simp only [bind_ok, fl_ok, of_some, seq_nx, seq_ret, pick_t, pick_f, getV_ok, putE_ok, putS_ok, ev_var, ev_non, ev_bl, ev_int, ev_str, ev_glob, ev_bin, ev_cmp, negD_int, ev_neg, notD_bl, ev_not, ev_band, ev_bor, pickE_t, pickE_f, and_1, and_c, or_1, or_c, ev_chain, ev_isN, ev_notN, ev_ite, ev_call, ev_bi, ev_tup, ev_new, new_f, ev_dnewK, ev_dnewT, ev_ix, ev_sl, ev_frz, evs_nil, evs_cons, evN_n, intN_int, evN_s, evO_n, evO_s, evL_disp, ev_join, joinM_s, evL_sorted, evL_sortk, evL_list, evL_keys, seq_lst, seq_tup, ex_putp, evL_cm, evI_seq, evI_rng1, evI_rng2, evI_enum, exs_nil, exs_cons, exs_frz, ex_asg, setT_n, ex_par, ex_put, ex_aug, augD_ok, ex_drop, ex_app, ex_ifs, ex_for, ex_while, ex_ret, ex_retN, ex_pass, unlock_nx, unlock_ret, lock_seq, lock_rng1, lock_rng2, lock_enum, lock_text, cmp_lt, cmp_le, cmp_gt, cmp_ge, cmp_eqi, cmp_nei, cmp_eqb, cmp_neb, b_add, b_sub, bi_abs, bi_int, len_lst, len_tup, len_scr, ix_lst, ix_tup, ix_scr, at_0, at_1, at_2, at_3, isN_non, isN_int, isN_tup, isN_lst, isN_str, isN_bl, List.getElem?_cons_succ, List.getElem?_cons_zero, Option.map_some, List.set_cons_succ, List.set_cons_zero, hc, hn, e10, h, decide_true, rngD_ok m60, q1, b_mul (mul_okl u1)], q2⟩
    · obtain ⟨a, b, c', q1, q2⟩ := db (1 - 2 * c)
      simp only [List.length_map, List.length_range] at q2
      exact ⟨some (.int (1 - 2 * c)), a, some (.int b), c', by simp only [bind_ok, fl_ok, of_some, seq_nx, seq_ret, pick_t, pick_f, getV_ok, putE_ok, putS_ok, ev_var, ev_non, ev_bl, ev_int, ev_str, ev_glob, ev_bin, ev_cmp, negD_int, ev_neg, notD_bl, ev_not, ev_band, ev_bor, pickE_t, pickE_f, and_1, and_c, or_1, or_c, ev_chain, ev_isN, ev_notN, ev_ite, ev_call, ev_bi, ev_tup, ev_new, new_f, ev_dnewK, ev_dnewT, ev_ix, ev_sl, ev_frz, evs_nil, evs_cons, evN_n, intN_int, evN_s, evO_n, evO_s, evL_disp, ev_join, joinM_s, evL_sorted, evL_sortk, evL_list, evL_keys, seq_lst, seq_tup, ex_putp, evL_cm, evI_seq, evI_rng1, evI_rng2, evI_enum, exs_nil, exs_cons, exs_frz, ex_asg, setT_n, ex_par, ex_put, ex_aug, augD_ok, ex_drop, ex_app, ex_ifs, ex_for, ex_while, ex_ret, ex_retN, ex_pass, unlock_nx, unlock_ret, lock_seq, lock_rng1, lock_rng2, lock_enum, lock_text, cmp_lt, cmp_le, cmp_gt, cmp_ge, cmp_eqi, cmp_nei, cmp_eqb, cmp_neb, b_add, b_sub, bi_abs, bi_int, len_lst, len_tup, len_scr, ix_lst, ix_tup, ix_scr, at_0, at_1, at_2, at_3, isN_non, isN_int, isN_tup, isN_lst, isN_str, isN_bl, List.getElem?_cons_succ, List.getElem?_cons_zero, Option.map_some, List.set_cons_succ, List.set_cons_zero, hc, hn, e10, h, decide_true, decide_false, rngD_ok m12, b_mod u4, b_mul (mul_okr u2), b_mul (mul_okr u3), q1, b_mul (mul_okl u1)], by omega⟩
  · by_cases h : (1000000000000000000 : Int) ≤ c
    · obtain ⟨a, b, c', q1, q2⟩ := da c (by omega)
      rw [rangeD_len] at q2
      exact ⟨some (.int b), a, x7, c', by simp only [bind_ok, fl_ok, of_some, seq_nx, seq_ret, pick_t, pick_f, getV_ok, putE_ok, putS_ok, ev_var, ev_non, ev_bl, ev_int, ev_str, ev_glob, ev_bin, ev_cmp, negD_int, ev_neg, notD_bl, ev_not, ev_band, ev_bor, pickE_t, pickE_f, and_1, and_c, or_1, or_c, ev_chain, ev_isN, ev_notN, ev_ite, ev_call, ev_bi, ev_tup, ev_new, new_f, ev_dnewK, ev_dnewT, ev_ix, ev_sl, ev_frz, evs_nil, evs_cons, evN_n, intN_int, evN_s, evO_n, evO_s, evL_disp, ev_join, joinM_s, evL_sorted, evL_sortk, evL_list, evL_keys, seq_lst, seq_tup, ex_putp, evL_cm, evI_seq, evI_rng1, evI_rng2, evI_enum, exs_nil, exs_cons, exs_frz, ex_asg, setT_n, ex_par, ex_put, ex_aug, augD_ok, ex_drop, ex_app, ex_ifs, ex_for, ex_while, ex_ret, ex_retN, ex_pass, unlock_nx, unlock_ret, lock_seq, lock_rng1, lock_rng2, lock_enum, lock_text, cmp_lt, cmp_le, cmp_gt, cmp_ge, cmp_eqi, cmp_nei, cmp_eqb, cmp_neb, b_add, b_sub, bi_abs, bi_int, len_lst, len_tup, len_scr, ix_lst, ix_tup, ix_scr, at_0, at_1, at_2, at_3, isN_non, isN_int, isN_tup, isN_lst, isN_str, isN_bl, List.getElem?_cons_succ, List.getElem?_cons_zero, Option.map_some, List.set_cons_succ, List.set_cons_zero, hc, hn, e10, h, decide_true, decide_false, rngD_ok m60, q1], q2⟩
    · obtain ⟨a, b, c', q1, q2⟩ := db c
      simp only [List.length_map, List.length_range] at q2
      exact ⟨some (.int c), a, some (.int b), c', by simp only [bind_ok, fl_ok, of_some, seq_nx, seq_ret, pick_t, pick_f, getV_ok, putE_ok, putS_ok, ev_var, ev_non, ev_bl, ev_int, ev_str, ev_glob, ev_bin, ev_cmp, negD_int, ev_neg, notD_bl, ev_not, ev_band, ev_bor, pickE_t, pickE_f, and_1, and_c, or_1, or_c, ev_chain, ev_isN, ev_notN, ev_ite, ev_call, ev_bi, ev_tup, ev_new, new_f, ev_dnewK, ev_dnewT, ev_ix, ev_sl, ev_frz, evs_nil, evs_cons, evN_n, intN_int, evN_s, evO_n, evO_s, evL_disp, ev_join, joinM_s, evL_sorted, evL_sortk, evL_list, evL_keys, seq_lst, seq_tup, ex_putp, evL_cm, evI_seq, evI_rng1, evI_rng2, evI_enum, exs_nil, exs_cons, exs_frz, ex_asg, setT_n, ex_par, ex_put, ex_aug, augD_ok, ex_drop, ex_app, ex_ifs, ex_for, ex_while, ex_ret, ex_retN, ex_pass, unlock_nx, unlock_ret, lock_seq, lock_rng1, lock_rng2, lock_enum, lock_text, cmp_lt, cmp_le, cmp_gt, cmp_ge, cmp_eqi, cmp_nei, cmp_eqb, cmp_neb, b_add, b_sub, bi_abs, bi_int, len_lst, len_tup, len_scr, ix_lst, ix_tup, ix_scr, at_0, at_1, at_2, at_3, isN_non, isN_int, isN_tup, isN_lst, isN_str, isN_bl, List.getElem?_cons_succ, List.getElem?_cons_zero, Option.map_some, List.set_cons_succ, List.set_cons_zero, hc, hn, e10, h, decide_false, rngD_ok m12, b_mod u4, b_mul (mul_okr u2), b_mul (mul_okr u3), q1], by omega⟩
theorem r_Ldigits {ns : List Int} {lo hi : Int} (h0 : 0 ≤ lo) (hh : lo ≤ hi) (h1 : hi ≤ 1000) : ∃ ds : List Int, f_Ldigits [.scr (ns.map .int), .int lo, .int hi] [] = .ok (.lst (ds.map .int)) [] := by
  · obtain ⟨ρ', S', q1, q2⟩ := forL_inv (f := turnF (.name 4) b_Ldigits_3) (I := fun j ρ S => ∃ x4 x5 x6 x7 acc, ρ = [some (.scr (ns.map .int)), some (.int lo), some (.int hi), some (.ptr 0), x4, x5, x6, x7] ∧ S = dS acc ∧ acc.length ≤ 60 * j) (rangeD lo hi) 0
      [some (.scr (ns.map .int)), some (.int lo), some (.int hi), some (.ptr 0), none, none, none, none] (dS []) ⟨_, _, _, _, [], rfl, rfl, by simp⟩ (by
      rintro i d ρ S hd ⟨x4, x5, x6, x7, acc, rfl, rfl, hl⟩
      obtain ⟨rfl, hj⟩ := rangeD_get hd
      have hi' : i < 1000 := by omega
      obtain ⟨a, b, c, acc', e1, e2⟩ := dig_turn (ns := ns) (lo := some (.int lo)) (hi := some (.int hi)) (x4 := x4) (x5 := x5) (x6 := x6) (x7 := x7) (k := lo + (i : Nat)) (acc := acc) (by omega) (by omega) (by omega)
      exact ⟨_, _, e1, _, _, _, _, acc', rfl, rfl, by omega⟩)
    obtain ⟨x4, x5, x6, x7, acc, rfl, rfl, hl⟩ := q2
    refine ⟨acc, ?_⟩
    refine (fn_ret (S' := [.dead]) (d := .lst (acc.map .int)) rfl ?_).trans ?_
    · show exs c_Ldigits [some (.scr (ns.map .int)), some (.int lo), some (.int hi), none, none, none, none, none] [] = _
      have b1 : small62 lo = true := by have := small_ok (n := lo.toNat) (by omega); rw [Int.toNat_of_nonneg h0] at this; exact this
      have b2 : small62 hi = true := by have := small_ok (n := hi.toNat) (by omega); rw [Int.toNat_of_nonneg (by omega)] at this; exact this
      unfold c_Ldigits
      simp only [bind_ok, fl_ok, of_some, seq_nx, seq_ret, pick_t, pick_f, getV_ok, putE_ok, putS_ok, ev_var, ev_non, ev_bl, ev_int, ev_str, ev_glob, ev_bin, ev_cmp, negD_int, ev_neg, notD_bl, ev_not, ev_band, ev_bor, pickE_t, pickE_f, and_1, and_c, or_1, or_c, ev_chain, ev_isN, ev_notN, ev_ite, ev_call, ev_bi, ev_tup, ev_new, new_f, ev_dnewK, ev_dnewT, ev_ix, ev_sl, ev_frz, evs_nil, evs_cons, evN_n, intN_int, evN_s, evO_n, evO_s, evL_disp, ev_join, joinM_s, evL_sorted, evL_sortk, evL_list, evL_keys, seq_lst, seq_tup, ex_putp, evL_cm, evI_seq, evI_rng1, evI_rng2, evI_enum, exs_nil, exs_cons, exs_frz, ex_asg, setT_n, ex_par, ex_put, ex_aug, augD_ok, ex_drop, ex_app, ex_ifs, ex_for, ex_while, ex_ret, ex_retN, ex_pass, unlock_nx, unlock_ret, lock_seq, lock_rng1, lock_rng2, lock_enum, lock_text, cmp_lt, cmp_le, cmp_gt, cmp_ge, cmp_eqi, cmp_nei, cmp_eqb, cmp_neb, b_add, b_sub, bi_abs, bi_int, len_lst, len_tup, len_scr, ix_lst, ix_tup, ix_scr, at_0, at_1, at_2, at_3, isN_non, isN_int, isN_tup, isN_lst, isN_str, isN_bl, List.getElem?_cons_succ, List.getElem?_cons_zero, Option.map_some, List.set_cons_succ, List.set_cons_zero, new_t (show ltL [] ([] : Store).length = true from rfl), List.length_nil, List.nil_append, rngD2_ok b1 b2]
      have q1' : forL (turnF (.name 4) b_Ldigits_3) (rangeD lo hi) [some (.scr (ns.map .int)), some (.int lo), some (.int hi), some (.ptr 0), none, none, none, none] [Cell.lst []] = _ := q1
      rw [q1']
      simp only [bind_ok, fl_ok, of_some, seq_nx, seq_ret, pick_t, pick_f, getV_ok, putE_ok, putS_ok, ev_var, ev_non, ev_bl, ev_int, ev_str, ev_glob, ev_bin, ev_cmp, negD_int, ev_neg, notD_bl, ev_not, ev_band, ev_bor, pickE_t, pickE_f, and_1, and_c, or_1, or_c, ev_chain, ev_isN, ev_notN, ev_ite, ev_call, ev_bi, ev_tup, ev_new, new_f, ev_dnewK, ev_dnewT, ev_ix, ev_sl, ev_frz, evs_nil, evs_cons, evN_n, intN_int, evN_s, evO_n, evO_s, evL_disp, ev_join, joinM_s, evL_sorted, evL_sortk, evL_list, evL_keys, seq_lst, seq_tup, ex_putp, evL_cm, evI_seq, evI_rng1, evI_rng2, evI_enum, exs_nil, exs_cons, exs_frz, ex_asg, setT_n, ex_par, ex_put, ex_aug, augD_ok, ex_drop, ex_app, ex_ifs, ex_for, ex_while, ex_ret, ex_retN, ex_pass, unlock_nx, unlock_ret, lock_seq, lock_rng1, lock_rng2, lock_enum, lock_text, cmp_lt, cmp_le, cmp_gt, cmp_ge, cmp_eqi, cmp_nei, cmp_eqb, cmp_neb, b_add, b_sub, bi_abs, bi_int, len_lst, len_tup, len_scr, ix_lst, ix_tup, ix_scr, at_0, at_1, at_2, at_3, isN_non, isN_int, isN_tup, isN_lst, isN_str, isN_bl, List.getElem?_cons_succ, List.getElem?_cons_zero, Option.map_some, List.set_cons_succ, List.set_cons_zero, getF_ok (show (dS acc)[0]? = some (.lst (acc.map .int)) from rfl)]
    · have : ∀ l : List Int, ltL (l.map D.int) 0 = true := fun l => by induction l with
        | nil => rfl
        | cons a l ih => simp [ltL, D.lt, ih]
      exact (expo_flat (n := 0) (show (D.lst (acc.map .int)).lt 0 = true from this acc)).trans rfl
end MI.K
set_option exponentiation.threshold 5000
namespace MI.K
open PySem PySem.Spec L2
/-! ### comprehensions -/
theorem turn_n {i : Nat} {vs : List Nat} {e : CE} {ρ : MEnv} {d : D} {S : Store} : turnC (.name i) vs .none e ρ d S = ((ev e ((wipeE ρ vs).set i (some d)) S).bind fun x S => .ok (some x) S).nox := (rfl)
def condC (b : D) (r : Rs D) (S : Store) : Rs (Option D) := match b with
  | .bl false => .ok none S
  | .bl true => r.bind fun x S => .ok (some x) S
  | _ => .stuck
theorem cond_t {r : Rs D} {S : Store} : condC (.bl true) r S = r.bind fun x S => .ok (some x) S := (rfl)
theorem cond_f {r : Rs D} {S : Store} : condC (.bl false) r S = .ok none S := (rfl)
theorem turn_c {i : Nat} {vs : List Nat} {c e : CE} {ρ : MEnv} {d : D} {S : Store} : turnC (.name i) vs (.some c) e ρ d S = ((ev c ((wipeE ρ vs).set i (some d)) S).bind fun b S => condC b (ev e ((wipeE ρ vs).set i (some d)) S) S).nox := by
  show (Rs.bind (Rs.bind (ev c ((wipeE ρ vs).set i (some d)) S) fun x S => .ok (some x) S) _).nox = _
  cases ev c ((wipeE ρ vs).set i (some d)) S with
  | ok b S => cases b with
    | bl b => cases b <;> rfl
    | _ => rfl
  | ex c fs S => rfl
  | stuck => rfl
theorem nox_ok {α : Type} {a : α} {S : Store} : (Rs.ok a S).nox = .ok a S := (rfl)
theorem compL_map {α : Type} {f : D → Store → Rs (Option D)} {g h : α → D} {S : Store} : ∀ (l : List α) (acc : List D), acc.length + l.length < 1000000 → (∀ a ∈ l, f (g a) S = .ok (some (h a)) S) → compL f (l.map g) acc S = .ok (acc ++ l.map h) S
  | [], acc, _, _ => by simp [compL]
  | a :: l, acc, hl, hf => by
    rw [List.length_cons] at hl
    show (f (g a) S).bind (fun o S1 => (match o with | some y => if acc.length < 1000000 then compL f (l.map g) (acc ++ [y]) S1 else .stuck | none => compL f (l.map g) acc S1)) = _
    rw [hf a List.mem_cons_self]
    show (if acc.length < 1000000 then compL f (l.map g) (acc ++ [h a]) S else .stuck) = _
    rw [if_pos (by omega), compL_map l (acc ++ [h a]) (by rw [List.length_append]; simp; omega) fun b hb => hf b (List.mem_cons_of_mem _ hb)]
    simp
theorem compL_filter {α : Type} {f : D → Store → Rs (Option D)} {g h : α → D} {p : α → Bool} {S : Store} : ∀ (l : List α) (acc : List D), acc.length + l.length < 1000000 → (∀ a ∈ l, f (g a) S = .ok (if p a then some (h a) else none) S) → compL f (l.map g) acc S = .ok (acc ++ (l.filter p).map h) S
  | [], acc, _, _ => by simp [compL]
  | a :: l, acc, hl, hf => by
    rw [List.length_cons] at hl
    show (f (g a) S).bind (fun o S1 => (match o with | some y => if acc.length < 1000000 then compL f (l.map g) (acc ++ [y]) S1 else .stuck | none => compL f (l.map g) acc S1)) = _
    rw [hf a List.mem_cons_self]
    cases hp : p a with
    | true =>
      show (if acc.length < 1000000 then compL f (l.map g) (acc ++ [h a]) S else .stuck) = _
      rw [if_pos (by omega), compL_filter l (acc ++ [h a]) (by rw [List.length_append]; simp; omega) fun b hb => hf b (List.mem_cons_of_mem _ hb)]
      simp [List.filter_cons, hp]
    | false =>
      show compL f (l.map g) acc S = _
      rw [compL_filter l acc (by omega) fun b hb => hf b (List.mem_cons_of_mem _ hb)]
      simp [List.filter_cons, hp]
theorem at_two {a b : D} {r : Int} (h0 : 0 ≤ r) (h1 : r < 2) : atI [a, b] r = some (if r = 0 then a else b) := by
  have : r = 0 ∨ r = 1 := by omega
  rcases this with e | e
  · subst e; exact at_0
  · subst e; exact at_1
theorem at_three {a b c : D} {r : Int} (h0 : 0 ≤ r) (h1 : r < 3) : atI [a, b, c] r = some (if r = 0 then a else if r = 1 then b else c) := by
  have : r = 0 ∨ r = 1 ∨ r = 2 := by omega
  rcases this with e | e | e
  · subst e; exact at_0
  · subst e; exact at_1
  · subst e; exact at_2
end MI.K
set_option exponentiation.threshold 5000
namespace MI.K
open PySem PySem.Spec L2
/-! ### cells at the end of the store -/
theorem end_get {S : Store} {c : Cell} : (S ++ [c])[S.length]? = some c := by
  rw [List.getElem?_append_right (Nat.le_refl _), Nat.sub_self]; rfl
theorem end_set {S : Store} {c c' : Cell} : (S ++ [c]).set S.length c' = S ++ [c'] := by
  rw [List.set_append_right _ _ (Nat.le_refl _), Nat.sub_self]; rfl
theorem new_s {S : Store} : newL true [] S = .ok (.ptr S.length) (S ++ [.lst []]) := new_t rfl
theorem cell_s {S : Store} {l : List D} : isCellL (.ptr S.length) (S ++ [.lst l]) = true := cell_l end_get
theorem app_d {S : Store} {l : List D} {d : D} (h : l.length < 1000000) (hd : d.lt S.length = true) : appL (.ptr S.length) d (S ++ [.lst l]) = some (S ++ [.lst (l ++ [d])]) := by
  rw [app_l end_get hd h, end_set]
theorem app_s {S : Store} {l : List D} {i : Int} (h : l.length < 1000000) : appL (.ptr S.length) (.int i) (S ++ [.lst l]) = some (S ++ [.lst (l ++ [.int i])]) := app_d h rfl
theorem getF_s {S : Store} {l : List D} : getF (some (some (.ptr S.length))) (S ++ [.lst l]) = .ok (.lst l) (S ++ [.dead]) := by
  rw [getF_ok end_get, end_set]
theorem lt_ints {n : Nat} : ∀ l : List Int, ltL (l.map D.int) n = true
  | [] => rfl
  | a :: l => by simp [ltL, D.lt, lt_ints l]
theorem map_snoc {l : List Int} {i : Int} : l.map D.int ++ [.int i] = (l ++ [i]).map .int := by simp
/-- a draw, some cells behind the box -/
theorem r_draw_s {ds : List Int} {k : Nat} {m : Int} {T U : Store} (hm : 0 < m) : f_Ldraw [.ptr 0, .int m] ((bxC ds k :: T) ++ U) = .ok (.int (drw ds k m)) ((bxC ds (k + 1) :: T) ++ U) := r_Ldraw (T := T ++ U) hm
theorem seq_s {S : Store} {l : List D} : seqOf (.ptr S.length) (S ++ [.lst l]) = some l := by unfold seqOf; simp only [end_get]
/-! ### sorting -/
theorem leD_total : PySem.W.TotalLe leD := (PySem.W.sortLe_total (PyProof.Rows.listOrd PyProof.Rows.itemOrd) false (fun b : D => PySem.W.keyToks b.py) : PySem.W.TotalLe (PySem.W.dataLe false D.py))
theorem le_int {a b : Int} : leD (.int a) (.int b) = decide (a ≤ b) := by
  show (!(decide (b < a) || (!decide (a < b) && false))) = _
  by_cases h : b < a
  · rw [decide_eq_true h, decide_eq_false (show ¬ a < b by omega), decide_eq_false (show ¬ a ≤ b by omega)]; rfl
  · rw [decide_eq_false h, decide_eq_true (show a ≤ b by omega)]; simp
theorem sort_ints {l : List Int} : (l.map D.int).mergeSort leD = (l.mergeSort fun a b => decide (a ≤ b)).map .int :=
  (List.map_mergeSort (r := fun a b => decide (a ≤ b)) (s := leD) (f := D.int) (l := l) fun a _ b _ => le_int.symm).symm
theorem fit_ints {n : Nat} : ∀ l : List Int, fitL (l.map D.int) n = true
  | [] => rfl
  | a :: l => by simp [fitL, D.fit, fit_ints l]
theorem srt_ints {l : List Int} : (fitL (l.map D.int) 50 && alikeAllD (l.map .int) && sortableD (l.map .int)) = true := by
  have h1 : alikeAllD (l.map .int) = true := by
    unfold alikeAllD
    simp only [List.all_map, List.all_eq_true]
    intro a _
    simp only [Function.comp, List.all_map, List.all_eq_true]
    intro b _
    rfl
  have h2 : sortableD (l.map .int) = true := by
    unfold sortableD
    rw [Bool.or_eq_true]
    exact .inr (by simp [List.all_map])
  rw [fit_ints, h1, h2]; rfl
theorem sortM_ints {S : Store} {l : List Int} : sortM (.ptr S.length) (S ++ [Cell.lst (l.map .int)]) = .ok ((l.mergeSort fun a b => decide (a ≤ b)).map .int) (S ++ [Cell.lst (l.map .int)]) := by
  show (match seqOf (.ptr S.length) (S ++ [Cell.lst (l.map .int)]) with
      | some ds => if fitL ds 50 && alikeAllD ds && sortableD ds then Rs.ok (ds.mergeSort leD) (S ++ [Cell.lst (l.map .int)]) else .stuck
      | none => .stuck) = _
  rw [seq_s]
  show (if _ then _ else _) = _
  rw [if_pos srt_ints, sort_ints]
theorem sorted_ints (l : List Int) : (l.mergeSort fun a b => decide (a ≤ b)).Pairwise (· ≤ ·) := by
  have := List.pairwise_mergeSort (le := fun a b : Int => decide (a ≤ b)) (fun a b c h1 h2 => by simp at *; omega) (fun a b => by simp; omega) l
  exact this.imp fun h => by simpa using h
end MI.K
set_option exponentiation.threshold 5000
namespace MI.K
open PySem PySem.Spec L2
/-! ### texts as lists of numbers -/
def sl (l : List Nat) : Str := ⟨l.toArray⟩
theorem sl_len (l : List Nat) : (sl l).length = l.length := by show l.toArray.size = _; simp
theorem sl_app (a b : List Nat) : sl a ++ sl b = sl (a ++ b) := by
  show (⟨a.toArray ++ b.toArray⟩ : Str) = ⟨(a ++ b).toArray⟩
  simp
theorem sl_of (z : Str) : z = sl z.cps.toList := rfl
theorem sl_inj {a b : List Nat} (h : sl a = sl b) : a = b := by
  have h := congrArg (fun z : Str => z.cps.toList) h
  simpa [sl] using h
def isD (c : Nat) : Bool := decide (48 ≤ c) && decide (c ≤ 57)
def isL (c : Nat) : Bool := decide (97 ≤ c) && decide (c ≤ 122)
theorem inD : ∀ c : Nat, c < 128 → strIn ⟨#[c]⟩ "0123456789" = isD c := by decide +kernel
theorem inL : ∀ c : Nat, c < 128 → strIn ⟨#[c]⟩ "abcdefghijklmnopqrstuvwxyz" = isL c := by decide +kernel
section
variable {S : Store}
theorem cmp_in {z w : Str} : cmpD .inn (.str z) (.str w) S = some (strIn z w) := (rfl)
theorem ix_sl {l : List Nat} {i : Nat} {c : Nat} (hz : l.length ≤ 1000000) (h : l[i]? = some c) : ixD (.str (sl l)) (.int (i : Int)) S = some (.str (sl [c])) := by
  show (if (sl l).length ≤ 1000000 then (atI (sl l).cps.toList (i : Int)).map fun c => D.str ⟨#[c]⟩ else none) = _
  rw [sl_len, if_pos hz]
  have e : (sl l).cps.toList = l := by simp [sl]
  rw [e, atI_nat h]; rfl
theorem cmp_eqs {a b : Str} : cmpD .eq (.str a) (.str b) S = some (a == b) := (rfl)
theorem cmp_nes {a b : Str} : cmpD .ne (.str a) (.str b) S = some (!(a == b)) := (rfl)
theorem sl_beq {a b : List Nat} : (sl a == sl b) = decide (a = b) := by
  rw [Bool.eq_iff_iff, beq_iff_eq, decide_eq_true_iff]
  exact ⟨sl_inj, fun h => by rw [h]⟩
end
theorem fm_range {l : List Nat} : ∀ (n a : Nat), a + n ≤ l.length → ((List.range n).map (fun k => a + k)).filterMap (fun i => l[i]?) = (l.drop a).take n
  | 0, a, _ => by simp
  | n + 1, a, h => by
    rw [List.range_succ, List.map_append, List.filterMap_append, fm_range n a (by omega)]
    have e : l[a + n]? = some l[a + n] := List.getElem?_eq_getElem (by omega)
    simp only [List.map_cons, List.map_nil, List.filterMap_cons, List.filterMap_nil, e]
    rw [List.take_succ, List.getElem?_drop, e]; rfl
theorem sl_ixs {n a b : Nat} (h : a ≤ b) (hb : b ≤ n) : Builtin.Str.strSliceIndices (some (a : Int)) (some (b : Int)) 1 n = (List.range (b - a)).map (fun k => a + k) := by
  have e : Builtin.Str.strSliceIndices (some (a : Int)) (some (b : Int)) 1 n = sliceRange (a : Int) (b : Int) 1 := by
    show sliceRange (max 0 (min (if (a : Int) < 0 then (a : Int) + n else a) (n : Int))) (max 0 (min (if (b : Int) < 0 then (b : Int) + n else b) (n : Int))) 1 = _
    rw [if_neg (by omega), if_neg (by omega)]
    congr 1 <;> omega
  rw [e]
  show (List.range (if (a : Int) < b then ((b : Int) - a + 1 - 1) / 1 else 0).toNat).map (fun (k : Nat) => ((a : Int) + 1 * (k : Int)).toNat) = _
  have e2 : (if (a : Int) < b then ((b : Int) - a + 1 - 1) / 1 else 0).toNat = b - a := by
    split
    · rw [Int.ediv_one]; omega
    · omega
  rw [e2]
  exact List.map_congr_left fun k _ => by omega
theorem sl_slice {l : List Nat} {a b : Nat} (h : a ≤ b) (hb : b ≤ l.length) : Txt.slice (sl l) (some (a : Int)) (some (b : Int)) = sl ((l.drop a).take (b - a)) := by
  unfold Txt.slice
  rw [sl_len, sl_ixs h hb]
  have len : ((List.range (b - a)).map (fun k => a + k)).length = b - a := by simp
  rw [len]
  by_cases e : b - a = l.length
  · have ea : a = 0 := by omega
    subst ea
    rw [if_pos (by simp [e])]
    rw [List.drop_zero, e, List.take_length]
  · rw [if_neg (by simp [e])]
    have := fm_range (l := l) (b - a) a (by omega)
    show (⟨_⟩ : Str) = ⟨_⟩
    congr 1
    have ec : ∀ i : Nat, (sl l).cps[i]? = l[i]? := fun i => by simp [sl]
    simp only [ec]
    rw [this]
theorem slD_sl {l : List Nat} {a b : Nat} {S : Store} (hl : l.length ≤ 1000000) (h : a ≤ b) (hb : b ≤ l.length) : slD (.str (sl l)) (some (a : Int)) (some (b : Int)) S = some (.str (sl ((l.drop a).take (b - a)))) := by
  show (if (sl l).length ≤ 1000000 then some (D.str (Txt.slice (sl l) (some (a : Int)) (some (b : Int)))) else none) = _
  rw [sl_len, if_pos hl, sl_slice h hb]
theorem len_sl {l : List Nat} {S : Store} (h : l.length ≤ 1000000) : biD .len [.str (sl l)] S = some (.int (l.length : Int)) := by
  show ((if (sl l).length ≤ 1000000 then some (sl l).length else none).map fun (n : Nat) => D.int (n : Int)) = _
  rw [sl_len, if_pos h]; rfl
theorem add_sl {a b : List Nat} {S : Store} (h : a.length + b.length ≤ 1000000) : binD .add (.str (sl a)) (.str (sl b)) S = some (.str (sl (a ++ b))) := by
  show (if (sl a).length + (sl b).length ≤ 1000000 then some (D.str (sl a ++ sl b)) else none) = _
  rw [sl_len, sl_len, if_pos h, sl_app]
end MI.K
set_option exponentiation.threshold 5000
namespace MI.K
open PySem PySem.Spec L2
/-! ### the program's tokens -/
theorem while_f {c : MEnv → Store → Rs D} {b : MEnv → Store → Fl} {n : Nat} {ρ : MEnv} {S : Store} (h : c ρ S = .ok (.bl false) S) : whileL c b (n + 1) ρ S = .nx ρ S := by
  show (Rs.fl (c ρ S) _ _) = _
  rw [h]; rfl
theorem while_t {c : MEnv → Store → Rs D} {b : MEnv → Store → Fl} {n : Nat} {ρ ρ' : MEnv} {S S' : Store} (h : c ρ S = .ok (.bl true) S) (h2 : b ρ S = .nx ρ' S') : whileL c b (n + 1) ρ S = whileL c b n ρ' S' := by
  show (Rs.fl (c ρ S) _ _) = _
  rw [h]
  show Fl.seq (b ρ S) _ = _
  rw [h2]; rfl
theorem drop_cons {l s : List Nat} {c e : Nat} (h : l.drop e = c :: s) : l[e]? = some c ∧ l.drop (e + 1) = s ∧ e < l.length := by
  have h1 : l[e]? = some c := by
    have := congrArg (fun z : List Nat => z[0]?) h
    simpa using this
  refine ⟨h1, ?_, ?_⟩
  · rw [← List.drop_drop, h]
    rfl
  · rcases Nat.lt_or_ge e l.length with z | z
    · exact z
    · rw [List.getElem?_eq_none z] at h1; cases h1
section
variable {S : Store} {l : List Nat}
theorem run_loop {p : Nat → Bool} {cs : Str} {x1 : Option D} (hl : l.length ≤ 5000) (hp : ∀ c ∈ l, strIn (sl [c]) cs = p c) : ∀ (s : List Nat) (e n : Nat), l.drop e = s → s.length < n → e ≤ l.length →
    whileL (ev w_run_end_1) (exs b_run_end_1) n [some (.str (sl l)), x1, some (.str cs), some (.int (e : Int))] S = .nx [some (.str (sl l)), x1, some (.str cs), some (.int ((e + (s.takeWhile p).length : Nat) : Int))] S
  | [], e, n, hd, hn, he => by
    obtain ⟨n, rfl⟩ : ∃ k, n = k + 1 := ⟨n - 1, by simp at hn; omega⟩
    have hd : l.length ≤ e := by rw [List.drop_eq_nil_iff] at hd; exact hd
    have c : ev w_run_end_1 [some (.str (sl l)), x1, some (.str cs), some (.int (e : Int))] S = .ok (.bl false) S := by
      unfold w_run_end_1
      simp only [bind_ok, fl_ok, of_some, seq_nx, seq_ret, pick_t, pick_f, getV_ok, putE_ok, putS_ok, ev_var, ev_non, ev_bl, ev_int, ev_str, ev_glob, ev_bin, ev_cmp, negD_int, ev_neg, notD_bl, ev_not, ev_band, ev_bor, pickE_t, pickE_f, and_1, and_c, or_1, or_c, ev_chain, ev_isN, ev_notN, ev_ite, ev_call, ev_bi, ev_tup, ev_new, new_f, ev_dnewK, ev_dnewT, ev_ix, ev_sl, ev_frz, evs_nil, evs_cons, evN_n, intN_int, evN_s, evO_n, evO_s, evL_disp, ev_join, joinM_s, evL_sorted, evL_sortk, evL_list, evL_keys, seq_lst, seq_tup, ex_putp, evL_cm, evI_seq, evI_rng1, evI_rng2, evI_enum, exs_nil, exs_cons, exs_frz, ex_asg, setT_n, ex_par, ex_put, ex_aug, augD_ok, ex_drop, ex_app, ex_ifs, ex_for, ex_while, ex_ret, ex_retN, ex_pass, unlock_nx, unlock_ret, lock_seq, lock_rng1, lock_rng2, lock_enum, lock_text, cmp_lt, cmp_le, cmp_gt, cmp_ge, cmp_eqi, cmp_nei, cmp_eqb, cmp_neb, b_add, b_sub, bi_abs, bi_int, len_lst, len_tup, len_scr, ix_lst, ix_tup, ix_scr, at_0, at_1, at_2, at_3, isN_non, isN_int, isN_tup, isN_lst, isN_str, isN_bl, List.getElem?_cons_succ, List.getElem?_cons_zero, Option.map_some, List.set_cons_succ, List.set_cons_zero, len_sl (show l.length ≤ 1000000 by omega), decide_eq_false (show ¬ (e : Int) < (l.length : Int) by omega)]
    rw [while_f c]; rfl
  | c :: s, e, n, hd, hn, he => by
    obtain ⟨n, rfl⟩ : ∃ k, n = k + 1 := ⟨n - 1, by simp at hn; omega⟩
    obtain ⟨h1, h2, h3⟩ := drop_cons hd
    have ix := ix_sl (S := S) (l := l) (i := e) (c := c) (by omega) h1
    have hc := hp c (List.mem_of_getElem? h1)
    cases hpc : p c with
    | false =>
      have cc : ev w_run_end_1 [some (.str (sl l)), x1, some (.str cs), some (.int (e : Int))] S = .ok (.bl false) S := by
        unfold w_run_end_1
        simp only [bind_ok, fl_ok, of_some, seq_nx, seq_ret, pick_t, pick_f, getV_ok, putE_ok, putS_ok, ev_var, ev_non, ev_bl, ev_int, ev_str, ev_glob, ev_bin, ev_cmp, negD_int, ev_neg, notD_bl, ev_not, ev_band, ev_bor, pickE_t, pickE_f, and_1, and_c, or_1, or_c, ev_chain, ev_isN, ev_notN, ev_ite, ev_call, ev_bi, ev_tup, ev_new, new_f, ev_dnewK, ev_dnewT, ev_ix, ev_sl, ev_frz, evs_nil, evs_cons, evN_n, intN_int, evN_s, evO_n, evO_s, evL_disp, ev_join, joinM_s, evL_sorted, evL_sortk, evL_list, evL_keys, seq_lst, seq_tup, ex_putp, evL_cm, evI_seq, evI_rng1, evI_rng2, evI_enum, exs_nil, exs_cons, exs_frz, ex_asg, setT_n, ex_par, ex_put, ex_aug, augD_ok, ex_drop, ex_app, ex_ifs, ex_for, ex_while, ex_ret, ex_retN, ex_pass, unlock_nx, unlock_ret, lock_seq, lock_rng1, lock_rng2, lock_enum, lock_text, cmp_lt, cmp_le, cmp_gt, cmp_ge, cmp_eqi, cmp_nei, cmp_eqb, cmp_neb, b_add, b_sub, bi_abs, bi_int, len_lst, len_tup, len_scr, ix_lst, ix_tup, ix_scr, at_0, at_1, at_2, at_3, isN_non, isN_int, isN_tup, isN_lst, isN_str, isN_bl, List.getElem?_cons_succ, List.getElem?_cons_zero, Option.map_some, List.set_cons_succ, List.set_cons_zero, len_sl (show l.length ≤ 1000000 by omega), decide_eq_true (show (e : Int) < (l.length : Int) by omega), ix, cmp_in, hc, hpc]
      rw [while_f cc, List.takeWhile_cons, hpc]; rfl
    | true =>
      have cc : ev w_run_end_1 [some (.str (sl l)), x1, some (.str cs), some (.int (e : Int))] S = .ok (.bl true) S := by
        unfold w_run_end_1
        simp only [bind_ok, fl_ok, of_some, seq_nx, seq_ret, pick_t, pick_f, getV_ok, putE_ok, putS_ok, ev_var, ev_non, ev_bl, ev_int, ev_str, ev_glob, ev_bin, ev_cmp, negD_int, ev_neg, notD_bl, ev_not, ev_band, ev_bor, pickE_t, pickE_f, and_1, and_c, or_1, or_c, ev_chain, ev_isN, ev_notN, ev_ite, ev_call, ev_bi, ev_tup, ev_new, new_f, ev_dnewK, ev_dnewT, ev_ix, ev_sl, ev_frz, evs_nil, evs_cons, evN_n, intN_int, evN_s, evO_n, evO_s, evL_disp, ev_join, joinM_s, evL_sorted, evL_sortk, evL_list, evL_keys, seq_lst, seq_tup, ex_putp, evL_cm, evI_seq, evI_rng1, evI_rng2, evI_enum, exs_nil, exs_cons, exs_frz, ex_asg, setT_n, ex_par, ex_put, ex_aug, augD_ok, ex_drop, ex_app, ex_ifs, ex_for, ex_while, ex_ret, ex_retN, ex_pass, unlock_nx, unlock_ret, lock_seq, lock_rng1, lock_rng2, lock_enum, lock_text, cmp_lt, cmp_le, cmp_gt, cmp_ge, cmp_eqi, cmp_nei, cmp_eqb, cmp_neb, b_add, b_sub, bi_abs, bi_int, len_lst, len_tup, len_scr, ix_lst, ix_tup, ix_scr, at_0, at_1, at_2, at_3, isN_non, isN_int, isN_tup, isN_lst, isN_str, isN_bl, List.getElem?_cons_succ, List.getElem?_cons_zero, Option.map_some, List.set_cons_succ, List.set_cons_zero, len_sl (show l.length ≤ 1000000 by omega), decide_eq_true (show (e : Int) < (l.length : Int) by omega), ix, cmp_in, hc, hpc]
      have bb : exs b_run_end_1 [some (.str (sl l)), x1, some (.str cs), some (.int (e : Int))] S = .nx [some (.str (sl l)), x1, some (.str cs), some (.int ((e : Int) + 1))] S := by
        unfold b_run_end_1
        simp only [bind_ok, fl_ok, of_some, seq_nx, seq_ret, pick_t, pick_f, getV_ok, putE_ok, putS_ok, ev_var, ev_non, ev_bl, ev_int, ev_str, ev_glob, ev_bin, ev_cmp, negD_int, ev_neg, notD_bl, ev_not, ev_band, ev_bor, pickE_t, pickE_f, and_1, and_c, or_1, or_c, ev_chain, ev_isN, ev_notN, ev_ite, ev_call, ev_bi, ev_tup, ev_new, new_f, ev_dnewK, ev_dnewT, ev_ix, ev_sl, ev_frz, evs_nil, evs_cons, evN_n, intN_int, evN_s, evO_n, evO_s, evL_disp, ev_join, joinM_s, evL_sorted, evL_sortk, evL_list, evL_keys, seq_lst, seq_tup, ex_putp, evL_cm, evI_seq, evI_rng1, evI_rng2, evI_enum, exs_nil, exs_cons, exs_frz, ex_asg, setT_n, ex_par, ex_put, ex_aug, augD_ok, ex_drop, ex_app, ex_ifs, ex_for, ex_while, ex_ret, ex_retN, ex_pass, unlock_nx, unlock_ret, lock_seq, lock_rng1, lock_rng2, lock_enum, lock_text, cmp_lt, cmp_le, cmp_gt, cmp_ge, cmp_eqi, cmp_nei, cmp_eqb, cmp_neb, b_add, b_sub, bi_abs, bi_int, len_lst, len_tup, len_scr, ix_lst, ix_tup, ix_scr, at_0, at_1, at_2, at_3, isN_non, isN_int, isN_tup, isN_lst, isN_str, isN_bl, List.getElem?_cons_succ, List.getElem?_cons_zero, Option.map_some, List.set_cons_succ, List.set_cons_zero]
      rw [while_t cc bb, show (e : Int) + 1 = ((e + 1 : Nat) : Int) by omega, run_loop hl hp s (e + 1) n h2 (by simp at hn; omega) (by omega), List.takeWhile_cons, hpc, if_pos rfl, List.length_cons, show e + 1 + (s.takeWhile p).length = e + ((s.takeWhile p).length + 1) by omega]
theorem r_run_end {p : Nat → Bool} {cs : Str} {e : Nat} (hl : l.length ≤ 5000) (hp : ∀ c ∈ l, strIn (sl [c]) cs = p c) (he : e ≤ l.length) : f_run_end [.str (sl l), .int (e : Int), .str cs] S = .ok (.int ((e + ((l.drop e).takeWhile p).length : Nat) : Int)) S := by
  have q := run_loop (S := S) (x1 := some (.int (e : Int))) hl hp (l.drop e) e 10000 rfl (by rw [List.length_drop]; omega) he
  refine fn_same (k := 4) (S' := S) rfl ?_ rfl rfl
  show exs c_run_end [some (.str (sl l)), some (.int (e : Int)), some (.str cs), none] S = _
  unfold c_run_end
  simp only [bind_ok, fl_ok, of_some, seq_nx, seq_ret, pick_t, pick_f, getV_ok, putE_ok, putS_ok, ev_var, ev_non, ev_bl, ev_int, ev_str, ev_glob, ev_bin, ev_cmp, negD_int, ev_neg, notD_bl, ev_not, ev_band, ev_bor, pickE_t, pickE_f, and_1, and_c, or_1, or_c, ev_chain, ev_isN, ev_notN, ev_ite, ev_call, ev_bi, ev_tup, ev_new, new_f, ev_dnewK, ev_dnewT, ev_ix, ev_sl, ev_frz, evs_nil, evs_cons, evN_n, intN_int, evN_s, evO_n, evO_s, evL_disp, ev_join, joinM_s, evL_sorted, evL_sortk, evL_list, evL_keys, seq_lst, seq_tup, ex_putp, evL_cm, evI_seq, evI_rng1, evI_rng2, evI_enum, exs_nil, exs_cons, exs_frz, ex_asg, setT_n, ex_par, ex_put, ex_aug, augD_ok, ex_drop, ex_app, ex_ifs, ex_for, ex_while, ex_ret, ex_retN, ex_pass, unlock_nx, unlock_ret, lock_seq, lock_rng1, lock_rng2, lock_enum, lock_text, cmp_lt, cmp_le, cmp_gt, cmp_ge, cmp_eqi, cmp_nei, cmp_eqb, cmp_neb, b_add, b_sub, bi_abs, bi_int, len_lst, len_tup, len_scr, ix_lst, ix_tup, ix_scr, at_0, at_1, at_2, at_3, isN_non, isN_int, isN_tup, isN_lst, isN_str, isN_bl, List.getElem?_cons_succ, List.getElem?_cons_zero, Option.map_some, List.set_cons_succ, List.set_cons_zero, q]
def isNum (r : List Nat) : Bool := decide (r.length ≤ 4) && (decide (r.length = 1) || !decide (r.head? = some 48))
theorem r_is_number {r : List Nat} (h0 : r ≠ []) (h : r.length ≤ 5000) : f_is_number [.str (sl r)] S = .ok (.bl (isNum r)) S := by
  refine fn_same (k := 1) (S' := S) rfl ?_ rfl rfl
  show exs c_is_number [some (.str (sl r))] S = _
  unfold c_is_number
  cases r with
  | nil => exact absurd rfl h0
  | cons c s =>
    have ix := ix_sl (S := S) (l := c :: s) (i := 0) (c := c) (by omega) rfl
    have ix' : ixD (.str (sl (c :: s))) (.int 0) S = some (.str (sl [c])) := ix
    have e0 : (sl [c] == ("0" : Str)) = decide (c = 48) := by
      rw [show ("0" : Str) = sl [48] from rfl, sl_beq]
      simp
    unfold isNum
    by_cases h1 : (c :: s).length ≤ 4
    · by_cases h2 : (c :: s).length = 1
      · have e2 : (((c :: s).length : Int) == 1) = true := by rw [h2]; rfl
        simp only [bind_ok, fl_ok, of_some, seq_nx, seq_ret, pick_t, pick_f, getV_ok, putE_ok, putS_ok, ev_var, ev_non, ev_bl, ev_int, ev_str, ev_glob, ev_bin, ev_cmp, negD_int, ev_neg, notD_bl, ev_not, ev_band, ev_bor, pickE_t, pickE_f, and_1, and_c, or_1, or_c, ev_chain, ev_isN, ev_notN, ev_ite, ev_call, ev_bi, ev_tup, ev_new, new_f, ev_dnewK, ev_dnewT, ev_ix, ev_sl, ev_frz, evs_nil, evs_cons, evN_n, intN_int, evN_s, evO_n, evO_s, evL_disp, ev_join, joinM_s, evL_sorted, evL_sortk, evL_list, evL_keys, seq_lst, seq_tup, ex_putp, evL_cm, evI_seq, evI_rng1, evI_rng2, evI_enum, exs_nil, exs_cons, exs_frz, ex_asg, setT_n, ex_par, ex_put, ex_aug, augD_ok, ex_drop, ex_app, ex_ifs, ex_for, ex_while, ex_ret, ex_retN, ex_pass, unlock_nx, unlock_ret, lock_seq, lock_rng1, lock_rng2, lock_enum, lock_text, cmp_lt, cmp_le, cmp_gt, cmp_ge, cmp_eqi, cmp_nei, cmp_eqb, cmp_neb, b_add, b_sub, bi_abs, bi_int, len_lst, len_tup, len_scr, ix_lst, ix_tup, ix_scr, at_0, at_1, at_2, at_3, isN_non, isN_int, isN_tup, isN_lst, isN_str, isN_bl, List.getElem?_cons_succ, List.getElem?_cons_zero, Option.map_some, List.set_cons_succ, List.set_cons_zero, len_sl (show (c :: s).length ≤ 1000000 by omega), decide_eq_true (show ((c :: s).length : Int) ≤ 4 by omega), e2, decide_eq_true h1, decide_eq_true h2, Bool.true_or, Bool.and_true]
      · have e2 : (((c :: s).length : Int) == 1) = false := by simp; simp at h2; intro z; apply h2; exact List.length_eq_zero_iff.mp (by omega)
        have e3 : decide ((c :: s).head? = some 48) = decide (c = 48) := by simp
        simp only [bind_ok, fl_ok, of_some, seq_nx, seq_ret, pick_t, pick_f, getV_ok, putE_ok, putS_ok, ev_var, ev_non, ev_bl, ev_int, ev_str, ev_glob, ev_bin, ev_cmp, negD_int, ev_neg, notD_bl, ev_not, ev_band, ev_bor, pickE_t, pickE_f, and_1, and_c, or_1, or_c, ev_chain, ev_isN, ev_notN, ev_ite, ev_call, ev_bi, ev_tup, ev_new, new_f, ev_dnewK, ev_dnewT, ev_ix, ev_sl, ev_frz, evs_nil, evs_cons, evN_n, intN_int, evN_s, evO_n, evO_s, evL_disp, ev_join, joinM_s, evL_sorted, evL_sortk, evL_list, evL_keys, seq_lst, seq_tup, ex_putp, evL_cm, evI_seq, evI_rng1, evI_rng2, evI_enum, exs_nil, exs_cons, exs_frz, ex_asg, setT_n, ex_par, ex_put, ex_aug, augD_ok, ex_drop, ex_app, ex_ifs, ex_for, ex_while, ex_ret, ex_retN, ex_pass, unlock_nx, unlock_ret, lock_seq, lock_rng1, lock_rng2, lock_enum, lock_text, cmp_lt, cmp_le, cmp_gt, cmp_ge, cmp_eqi, cmp_nei, cmp_eqb, cmp_neb, b_add, b_sub, bi_abs, bi_int, len_lst, len_tup, len_scr, ix_lst, ix_tup, ix_scr, at_0, at_1, at_2, at_3, isN_non, isN_int, isN_tup, isN_lst, isN_str, isN_bl, List.getElem?_cons_succ, List.getElem?_cons_zero, Option.map_some, List.set_cons_succ, List.set_cons_zero, len_sl (show (c :: s).length ≤ 1000000 by omega), decide_eq_true (show ((c :: s).length : Int) ≤ 4 by omega), e2, ix', cmp_nes, e0, decide_eq_true h1, decide_eq_false h2, e3, Bool.false_or, Bool.true_and]
        cases decide (c = 48) <;> rfl
    · have e1 : ¬ (((c :: s).length : Nat) : Int) ≤ 4 := by omega
      simp only [bind_ok, fl_ok, of_some, seq_nx, seq_ret, pick_t, pick_f, getV_ok, putE_ok, putS_ok, ev_var, ev_non, ev_bl, ev_int, ev_str, ev_glob, ev_bin, ev_cmp, negD_int, ev_neg, notD_bl, ev_not, ev_band, ev_bor, pickE_t, pickE_f, and_1, and_c, or_1, or_c, ev_chain, ev_isN, ev_notN, ev_ite, ev_call, ev_bi, ev_tup, ev_new, new_f, ev_dnewK, ev_dnewT, ev_ix, ev_sl, ev_frz, evs_nil, evs_cons, evN_n, intN_int, evN_s, evO_n, evO_s, evL_disp, ev_join, joinM_s, evL_sorted, evL_sortk, evL_list, evL_keys, seq_lst, seq_tup, ex_putp, evL_cm, evI_seq, evI_rng1, evI_rng2, evI_enum, exs_nil, exs_cons, exs_frz, ex_asg, setT_n, ex_par, ex_put, ex_aug, augD_ok, ex_drop, ex_app, ex_ifs, ex_for, ex_while, ex_ret, ex_retN, ex_pass, unlock_nx, unlock_ret, lock_seq, lock_rng1, lock_rng2, lock_enum, lock_text, cmp_lt, cmp_le, cmp_gt, cmp_ge, cmp_eqi, cmp_nei, cmp_eqb, cmp_neb, b_add, b_sub, bi_abs, bi_int, len_lst, len_tup, len_scr, ix_lst, ix_tup, ix_scr, at_0, at_1, at_2, at_3, isN_non, isN_int, isN_tup, isN_lst, isN_str, isN_bl, List.getElem?_cons_succ, List.getElem?_cons_zero, Option.map_some, List.set_cons_succ, List.set_cons_zero, len_sl (show (c :: s).length ≤ 1000000 by omega), decide_eq_false e1, decide_eq_false h1, Bool.false_and]
end
structure Tok where
  k : Str
  t : List Nat
def Tok.d (t : Tok) : D := .tup [.str t.k, .str (sl t.t)]
/-- the token at the head -/
def tok (c : Nat) (s : List Nat) : Tok :=
  if isL c then (if ((c :: s).takeWhile isL).length > 8 then ⟨"bad", (c :: s).takeWhile isL⟩ else ⟨"word", (c :: s).takeWhile isL⟩)
  else if isD c then (if isNum ((c :: s).takeWhile isD) then ⟨"number", (c :: s).takeWhile isD⟩ else ⟨"bad", (c :: s).takeWhile isD⟩)
  else if c = 45 then (if s.takeWhile isD ≠ [] ∧ s.takeWhile isD ≠ [48] ∧ isNum (s.takeWhile isD) = true then ⟨"number", 45 :: s.takeWhile isD⟩ else ⟨"bad", [c]⟩)
  else ⟨"bad", [c]⟩
theorem tw_le {p : Nat → Bool} (l : List Nat) : (l.takeWhile p).length ≤ l.length := (List.takeWhile_sublist p).length_le
theorem tw_take {p : Nat → Bool} : ∀ l : List Nat, l.take (l.takeWhile p).length = l.takeWhile p
  | [] => rfl
  | c :: s => by
    rw [List.takeWhile_cons]
    cases p c with
    | true => rw [if_pos rfl, List.length_cons, List.take_succ_cons, tw_take s]
    | false => rfl
section
variable {S : Store} {l : List Nat}
theorem r_token {e c : Nat} {s : List Nat} (hl : l.length ≤ 5000) (hc : ∀ c ∈ l, c < 128) (hd : l.drop e = c :: s) : f_token [.str (sl l), .int (e : Int)] S = .ok (tok c s).d S := by
  obtain ⟨h1, h2, h3⟩ := drop_cons hd
  have ix := ix_sl (S := S) (l := l) (i := e) (c := c) (by omega) h1
  have c128 := hc c (List.mem_of_getElem? h1)
  have pD : ∀ c ∈ l, strIn (sl [c]) "0123456789" = isD c := fun c h => inD c (hc c h)
  have pL : ∀ c ∈ l, strIn (sl [c]) "abcdefghijklmnopqrstuvwxyz" = isL c := fun c h => inL c (hc c h)
  have rL := r_run_end (S := S) (l := l) (e := e) hl pL (by omega)
  have rD := r_run_end (S := S) (l := l) (e := e) hl pD (by omega)
  have rM := r_run_end (S := S) (l := l) (e := e + 1) hl pD (by omega)
  rw [hd] at rL rD
  rw [h2] at rM
  have iL : strIn (sl [c]) "abcdefghijklmnopqrstuvwxyz" = isL c := inL c c128
  have iD : strIn (sl [c]) "0123456789" = isD c := inD c c128
  have lls : l.length = e + (s.length + 1) := by
    have := congrArg List.length hd
    rw [List.length_drop, List.length_cons] at this
    omega
  have tL := tw_le (p := isL) (c :: s)
  have tD := tw_le (p := isD) (c :: s)
  have tM := tw_le (p := isD) s
  rw [List.length_cons] at tL tD
  have sL := slD_sl (S := S) (l := l) (a := e) (b := e + ((c :: s).takeWhile isL).length) (by omega) (by omega) (by omega)
  have sD := slD_sl (S := S) (l := l) (a := e) (b := e + ((c :: s).takeWhile isD).length) (by omega) (by omega) (by omega)
  have sM := slD_sl (S := S) (l := l) (a := e + 1) (b := e + 1 + (s.takeWhile isD).length) (by omega) (by omega) (by omega)
  rw [Nat.add_sub_cancel_left, hd, tw_take] at sL sD
  rw [Nat.add_sub_cancel_left, h2, tw_take] at sM
  refine fn_same (k := 4) (S' := S) rfl ?_ rfl rfl
  show exs c_token [some (.str (sl l)), some (.int (e : Int)), none, none] S = _
  unfold c_token tok
  cases hL : isL c with
  | true =>
    rw [hL] at iL
    rw [if_pos rfl]
    by_cases h8 : ((c :: s).takeWhile isL).length > 8
    · rw [if_pos h8]
      simp only [bind_ok, fl_ok, of_some, seq_nx, seq_ret, pick_t, pick_f, getV_ok, putE_ok, putS_ok, ev_var, ev_non, ev_bl, ev_int, ev_str, ev_glob, ev_bin, ev_cmp, negD_int, ev_neg, notD_bl, ev_not, ev_band, ev_bor, pickE_t, pickE_f, and_1, and_c, or_1, or_c, ev_chain, ev_isN, ev_notN, ev_ite, ev_call, ev_bi, ev_tup, ev_new, new_f, ev_dnewK, ev_dnewT, ev_ix, ev_sl, ev_frz, evs_nil, evs_cons, evN_n, intN_int, evN_s, evO_n, evO_s, evL_disp, ev_join, joinM_s, evL_sorted, evL_sortk, evL_list, evL_keys, seq_lst, seq_tup, ex_putp, evL_cm, evI_seq, evI_rng1, evI_rng2, evI_enum, exs_nil, exs_cons, exs_frz, ex_asg, setT_n, ex_par, ex_put, ex_aug, augD_ok, ex_drop, ex_app, ex_ifs, ex_for, ex_while, ex_ret, ex_retN, ex_pass, unlock_nx, unlock_ret, lock_seq, lock_rng1, lock_rng2, lock_enum, lock_text, cmp_lt, cmp_le, cmp_gt, cmp_ge, cmp_eqi, cmp_nei, cmp_eqb, cmp_neb, b_add, b_sub, bi_abs, bi_int, len_lst, len_tup, len_scr, ix_lst, ix_tup, ix_scr, at_0, at_1, at_2, at_3, isN_non, isN_int, isN_tup, isN_lst, isN_str, isN_bl, List.getElem?_cons_succ, List.getElem?_cons_zero, Option.map_some, List.set_cons_succ, List.set_cons_zero, ix, cmp_in, iL, rL, sL, len_sl (show ((c :: s).takeWhile isL).length ≤ 1000000 by omega), decide_eq_true (show (8 : Int) < (((c :: s).takeWhile isL).length : Nat) by omega)]
      rfl
    · rw [if_neg h8]
      simp only [bind_ok, fl_ok, of_some, seq_nx, seq_ret, pick_t, pick_f, getV_ok, putE_ok, putS_ok, ev_var, ev_non, ev_bl, ev_int, ev_str, ev_glob, ev_bin, ev_cmp, negD_int, ev_neg, notD_bl, ev_not, ev_band, ev_bor, pickE_t, pickE_f, and_1, and_c, or_1, or_c, ev_chain, ev_isN, ev_notN, ev_ite, ev_call, ev_bi, ev_tup, ev_new, new_f, ev_dnewK, ev_dnewT, ev_ix, ev_sl, ev_frz, evs_nil, evs_cons, evN_n, intN_int, evN_s, evO_n, evO_s, evL_disp, ev_join, joinM_s, evL_sorted, evL_sortk, evL_list, evL_keys, seq_lst, seq_tup, ex_putp, evL_cm, evI_seq, evI_rng1, evI_rng2, evI_enum, exs_nil, exs_cons, exs_frz, ex_asg, setT_n, ex_par, ex_put, ex_aug, augD_ok, ex_drop, ex_app, ex_ifs, ex_for, ex_while, ex_ret, ex_retN, ex_pass, unlock_nx, unlock_ret, lock_seq, lock_rng1, lock_rng2, lock_enum, lock_text, cmp_lt, cmp_le, cmp_gt, cmp_ge, cmp_eqi, cmp_nei, cmp_eqb, cmp_neb, b_add, b_sub, bi_abs, bi_int, len_lst, len_tup, len_scr, ix_lst, ix_tup, ix_scr, at_0, at_1, at_2, at_3, isN_non, isN_int, isN_tup, isN_lst, isN_str, isN_bl, List.getElem?_cons_succ, List.getElem?_cons_zero, Option.map_some, List.set_cons_succ, List.set_cons_zero, ix, cmp_in, iL, rL, sL, len_sl (show ((c :: s).takeWhile isL).length ≤ 1000000 by omega), decide_eq_false (show ¬ (8 : Int) < (((c :: s).takeWhile isL).length : Nat) by omega)]
      rfl
  | false =>
    rw [hL] at iL
    rw [if_neg (by decide)]
    cases hD : isD c with
    | true =>
      rw [hD] at iD
      rw [if_pos rfl]
      have ne : (c :: s).takeWhile isD ≠ [] := by rw [List.takeWhile_cons, hD, if_pos rfl]; exact List.cons_ne_nil _ _
      have nm := r_is_number (S := S) (r := (c :: s).takeWhile isD) ne (by omega)
      cases hN : isNum ((c :: s).takeWhile isD) with
      | true =>
        rw [hN] at nm
        rw [if_pos rfl]
        simp only [bind_ok, fl_ok, of_some, seq_nx, seq_ret, pick_t, pick_f, getV_ok, putE_ok, putS_ok, ev_var, ev_non, ev_bl, ev_int, ev_str, ev_glob, ev_bin, ev_cmp, negD_int, ev_neg, notD_bl, ev_not, ev_band, ev_bor, pickE_t, pickE_f, and_1, and_c, or_1, or_c, ev_chain, ev_isN, ev_notN, ev_ite, ev_call, ev_bi, ev_tup, ev_new, new_f, ev_dnewK, ev_dnewT, ev_ix, ev_sl, ev_frz, evs_nil, evs_cons, evN_n, intN_int, evN_s, evO_n, evO_s, evL_disp, ev_join, joinM_s, evL_sorted, evL_sortk, evL_list, evL_keys, seq_lst, seq_tup, ex_putp, evL_cm, evI_seq, evI_rng1, evI_rng2, evI_enum, exs_nil, exs_cons, exs_frz, ex_asg, setT_n, ex_par, ex_put, ex_aug, augD_ok, ex_drop, ex_app, ex_ifs, ex_for, ex_while, ex_ret, ex_retN, ex_pass, unlock_nx, unlock_ret, lock_seq, lock_rng1, lock_rng2, lock_enum, lock_text, cmp_lt, cmp_le, cmp_gt, cmp_ge, cmp_eqi, cmp_nei, cmp_eqb, cmp_neb, b_add, b_sub, bi_abs, bi_int, len_lst, len_tup, len_scr, ix_lst, ix_tup, ix_scr, at_0, at_1, at_2, at_3, isN_non, isN_int, isN_tup, isN_lst, isN_str, isN_bl, List.getElem?_cons_succ, List.getElem?_cons_zero, Option.map_some, List.set_cons_succ, List.set_cons_zero, ix, cmp_in, iL, iD, rD, sD, nm]
        rfl
      | false =>
        rw [hN] at nm
        rw [if_neg (by decide)]
        simp only [bind_ok, fl_ok, of_some, seq_nx, seq_ret, pick_t, pick_f, getV_ok, putE_ok, putS_ok, ev_var, ev_non, ev_bl, ev_int, ev_str, ev_glob, ev_bin, ev_cmp, negD_int, ev_neg, notD_bl, ev_not, ev_band, ev_bor, pickE_t, pickE_f, and_1, and_c, or_1, or_c, ev_chain, ev_isN, ev_notN, ev_ite, ev_call, ev_bi, ev_tup, ev_new, new_f, ev_dnewK, ev_dnewT, ev_ix, ev_sl, ev_frz, evs_nil, evs_cons, evN_n, intN_int, evN_s, evO_n, evO_s, evL_disp, ev_join, joinM_s, evL_sorted, evL_sortk, evL_list, evL_keys, seq_lst, seq_tup, ex_putp, evL_cm, evI_seq, evI_rng1, evI_rng2, evI_enum, exs_nil, exs_cons, exs_frz, ex_asg, setT_n, ex_par, ex_put, ex_aug, augD_ok, ex_drop, ex_app, ex_ifs, ex_for, ex_while, ex_ret, ex_retN, ex_pass, unlock_nx, unlock_ret, lock_seq, lock_rng1, lock_rng2, lock_enum, lock_text, cmp_lt, cmp_le, cmp_gt, cmp_ge, cmp_eqi, cmp_nei, cmp_eqb, cmp_neb, b_add, b_sub, bi_abs, bi_int, len_lst, len_tup, len_scr, ix_lst, ix_tup, ix_scr, at_0, at_1, at_2, at_3, isN_non, isN_int, isN_tup, isN_lst, isN_str, isN_bl, List.getElem?_cons_succ, List.getElem?_cons_zero, Option.map_some, List.set_cons_succ, List.set_cons_zero, ix, cmp_in, iL, iD, rD, sD, nm]
        rfl
    | false =>
      rw [hD] at iD
      rw [if_neg (by decide)]
      have em : (sl [c] == ("-" : Str)) = decide (c = 45) := by
        rw [show ("-" : Str) = sl [45] from rfl, sl_beq]; simp
      by_cases h45 : c = 45
      · rw [if_pos h45]
        have em1 : (sl [c] == ("-" : Str)) = true := by rw [em]; simpa using h45
        have e1 : (e : Int) + 1 = ((e + 1 : Nat) : Int) := by omega
        have n0 : (sl (s.takeWhile isD) == ("" : Str)) = decide (s.takeWhile isD = []) := by
          rw [show ("" : Str) = sl [] from rfl, sl_beq]
        have n1 : (sl (s.takeWhile isD) == ("0" : Str)) = decide (s.takeWhile isD = [48]) := by
          rw [show ("0" : Str) = sl [48] from rfl, sl_beq]
        by_cases g0 : s.takeWhile isD = []
        · rw [if_neg (fun z => z.1 g0)]
          simp only [bind_ok, fl_ok, of_some, seq_nx, seq_ret, pick_t, pick_f, getV_ok, putE_ok, putS_ok, ev_var, ev_non, ev_bl, ev_int, ev_str, ev_glob, ev_bin, ev_cmp, negD_int, ev_neg, notD_bl, ev_not, ev_band, ev_bor, pickE_t, pickE_f, and_1, and_c, or_1, or_c, ev_chain, ev_isN, ev_notN, ev_ite, ev_call, ev_bi, ev_tup, ev_new, new_f, ev_dnewK, ev_dnewT, ev_ix, ev_sl, ev_frz, evs_nil, evs_cons, evN_n, intN_int, evN_s, evO_n, evO_s, evL_disp, ev_join, joinM_s, evL_sorted, evL_sortk, evL_list, evL_keys, seq_lst, seq_tup, ex_putp, evL_cm, evI_seq, evI_rng1, evI_rng2, evI_enum, exs_nil, exs_cons, exs_frz, ex_asg, setT_n, ex_par, ex_put, ex_aug, augD_ok, ex_drop, ex_app, ex_ifs, ex_for, ex_while, ex_ret, ex_retN, ex_pass, unlock_nx, unlock_ret, lock_seq, lock_rng1, lock_rng2, lock_enum, lock_text, cmp_lt, cmp_le, cmp_gt, cmp_ge, cmp_eqi, cmp_nei, cmp_eqb, cmp_neb, b_add, b_sub, bi_abs, bi_int, len_lst, len_tup, len_scr, ix_lst, ix_tup, ix_scr, at_0, at_1, at_2, at_3, isN_non, isN_int, isN_tup, isN_lst, isN_str, isN_bl, List.getElem?_cons_succ, List.getElem?_cons_zero, Option.map_some, List.set_cons_succ, List.set_cons_zero, ix, cmp_in, iL, iD, cmp_eqs, em1, e1, rM, sM, cmp_nes, n0, decide_eq_true g0, Bool.not_true]
          rfl
        · by_cases g1 : s.takeWhile isD = [48]
          · rw [if_neg (fun z => z.2.1 g1)]
            simp only [bind_ok, fl_ok, of_some, seq_nx, seq_ret, pick_t, pick_f, getV_ok, putE_ok, putS_ok, ev_var, ev_non, ev_bl, ev_int, ev_str, ev_glob, ev_bin, ev_cmp, negD_int, ev_neg, notD_bl, ev_not, ev_band, ev_bor, pickE_t, pickE_f, and_1, and_c, or_1, or_c, ev_chain, ev_isN, ev_notN, ev_ite, ev_call, ev_bi, ev_tup, ev_new, new_f, ev_dnewK, ev_dnewT, ev_ix, ev_sl, ev_frz, evs_nil, evs_cons, evN_n, intN_int, evN_s, evO_n, evO_s, evL_disp, ev_join, joinM_s, evL_sorted, evL_sortk, evL_list, evL_keys, seq_lst, seq_tup, ex_putp, evL_cm, evI_seq, evI_rng1, evI_rng2, evI_enum, exs_nil, exs_cons, exs_frz, ex_asg, setT_n, ex_par, ex_put, ex_aug, augD_ok, ex_drop, ex_app, ex_ifs, ex_for, ex_while, ex_ret, ex_retN, ex_pass, unlock_nx, unlock_ret, lock_seq, lock_rng1, lock_rng2, lock_enum, lock_text, cmp_lt, cmp_le, cmp_gt, cmp_ge, cmp_eqi, cmp_nei, cmp_eqb, cmp_neb, b_add, b_sub, bi_abs, bi_int, len_lst, len_tup, len_scr, ix_lst, ix_tup, ix_scr, at_0, at_1, at_2, at_3, isN_non, isN_int, isN_tup, isN_lst, isN_str, isN_bl, List.getElem?_cons_succ, List.getElem?_cons_zero, Option.map_some, List.set_cons_succ, List.set_cons_zero, ix, cmp_in, iL, iD, cmp_eqs, em1, e1, rM, sM, cmp_nes, n0, n1, decide_eq_false g0, decide_eq_true g1, Bool.not_true, Bool.not_false]
            rfl
          · have nm := r_is_number (S := S) (r := s.takeWhile isD) g0 (by omega)
            have ad := add_sl (S := S) (a := [45]) (b := s.takeWhile isD) (by simp; omega)
            have ad' : binD .add (.str "-") (.str (sl (s.takeWhile isD))) S = some (.str (sl (45 :: s.takeWhile isD))) := ad
            cases hN : isNum (s.takeWhile isD) with
            | true =>
              rw [hN] at nm
              rw [if_pos ⟨g0, g1, rfl⟩]
              simp only [bind_ok, fl_ok, of_some, seq_nx, seq_ret, pick_t, pick_f, getV_ok, putE_ok, putS_ok, ev_var, ev_non, ev_bl, ev_int, ev_str, ev_glob, ev_bin, ev_cmp, negD_int, ev_neg, notD_bl, ev_not, ev_band, ev_bor, pickE_t, pickE_f, and_1, and_c, or_1, or_c, ev_chain, ev_isN, ev_notN, ev_ite, ev_call, ev_bi, ev_tup, ev_new, new_f, ev_dnewK, ev_dnewT, ev_ix, ev_sl, ev_frz, evs_nil, evs_cons, evN_n, intN_int, evN_s, evO_n, evO_s, evL_disp, ev_join, joinM_s, evL_sorted, evL_sortk, evL_list, evL_keys, seq_lst, seq_tup, ex_putp, evL_cm, evI_seq, evI_rng1, evI_rng2, evI_enum, exs_nil, exs_cons, exs_frz, ex_asg, setT_n, ex_par, ex_put, ex_aug, augD_ok, ex_drop, ex_app, ex_ifs, ex_for, ex_while, ex_ret, ex_retN, ex_pass, unlock_nx, unlock_ret, lock_seq, lock_rng1, lock_rng2, lock_enum, lock_text, cmp_lt, cmp_le, cmp_gt, cmp_ge, cmp_eqi, cmp_nei, cmp_eqb, cmp_neb, b_add, b_sub, bi_abs, bi_int, len_lst, len_tup, len_scr, ix_lst, ix_tup, ix_scr, at_0, at_1, at_2, at_3, isN_non, isN_int, isN_tup, isN_lst, isN_str, isN_bl, List.getElem?_cons_succ, List.getElem?_cons_zero, Option.map_some, List.set_cons_succ, List.set_cons_zero, ix, cmp_in, iL, iD, cmp_eqs, em1, e1, rM, sM, cmp_nes, n0, n1, decide_eq_false g0, decide_eq_false g1, Bool.not_false, nm, ad']
              rfl
            | false =>
              rw [hN] at nm
              rw [if_neg (fun z => Bool.noConfusion z.2.2)]
              simp only [bind_ok, fl_ok, of_some, seq_nx, seq_ret, pick_t, pick_f, getV_ok, putE_ok, putS_ok, ev_var, ev_non, ev_bl, ev_int, ev_str, ev_glob, ev_bin, ev_cmp, negD_int, ev_neg, notD_bl, ev_not, ev_band, ev_bor, pickE_t, pickE_f, and_1, and_c, or_1, or_c, ev_chain, ev_isN, ev_notN, ev_ite, ev_call, ev_bi, ev_tup, ev_new, new_f, ev_dnewK, ev_dnewT, ev_ix, ev_sl, ev_frz, evs_nil, evs_cons, evN_n, intN_int, evN_s, evO_n, evO_s, evL_disp, ev_join, joinM_s, evL_sorted, evL_sortk, evL_list, evL_keys, seq_lst, seq_tup, ex_putp, evL_cm, evI_seq, evI_rng1, evI_rng2, evI_enum, exs_nil, exs_cons, exs_frz, ex_asg, setT_n, ex_par, ex_put, ex_aug, augD_ok, ex_drop, ex_app, ex_ifs, ex_for, ex_while, ex_ret, ex_retN, ex_pass, unlock_nx, unlock_ret, lock_seq, lock_rng1, lock_rng2, lock_enum, lock_text, cmp_lt, cmp_le, cmp_gt, cmp_ge, cmp_eqi, cmp_nei, cmp_eqb, cmp_neb, b_add, b_sub, bi_abs, bi_int, len_lst, len_tup, len_scr, ix_lst, ix_tup, ix_scr, at_0, at_1, at_2, at_3, isN_non, isN_int, isN_tup, isN_lst, isN_str, isN_bl, List.getElem?_cons_succ, List.getElem?_cons_zero, Option.map_some, List.set_cons_succ, List.set_cons_zero, ix, cmp_in, iL, iD, cmp_eqs, em1, e1, rM, sM, cmp_nes, n0, n1, decide_eq_false g0, decide_eq_false g1, Bool.not_false, nm]
              rfl
      · rw [if_neg h45]
        have em1 : (sl [c] == ("-" : Str)) = false := by rw [em]; simpa using h45
        simp only [bind_ok, fl_ok, of_some, seq_nx, seq_ret, pick_t, pick_f, getV_ok, putE_ok, putS_ok, ev_var, ev_non, ev_bl, ev_int, ev_str, ev_glob, ev_bin, ev_cmp, negD_int, ev_neg, notD_bl, ev_not, ev_band, ev_bor, pickE_t, pickE_f, and_1, and_c, or_1, or_c, ev_chain, ev_isN, ev_notN, ev_ite, ev_call, ev_bi, ev_tup, ev_new, new_f, ev_dnewK, ev_dnewT, ev_ix, ev_sl, ev_frz, evs_nil, evs_cons, evN_n, intN_int, evN_s, evO_n, evO_s, evL_disp, ev_join, joinM_s, evL_sorted, evL_sortk, evL_list, evL_keys, seq_lst, seq_tup, ex_putp, evL_cm, evI_seq, evI_rng1, evI_rng2, evI_enum, exs_nil, exs_cons, exs_frz, ex_asg, setT_n, ex_par, ex_put, ex_aug, augD_ok, ex_drop, ex_app, ex_ifs, ex_for, ex_while, ex_ret, ex_retN, ex_pass, unlock_nx, unlock_ret, lock_seq, lock_rng1, lock_rng2, lock_enum, lock_text, cmp_lt, cmp_le, cmp_gt, cmp_ge, cmp_eqi, cmp_nei, cmp_eqb, cmp_neb, b_add, b_sub, bi_abs, bi_int, len_lst, len_tup, len_scr, ix_lst, ix_tup, ix_scr, at_0, at_1, at_2, at_3, isN_non, isN_int, isN_tup, isN_lst, isN_str, isN_bl, List.getElem?_cons_succ, List.getElem?_cons_zero, Option.map_some, List.set_cons_succ, List.set_cons_zero, ix, cmp_in, iL, iD, cmp_eqs, em1]
        rfl
end
end MI.K
set_option exponentiation.threshold 5000
namespace MI.K
open PySem PySem.Spec L2
inductive Toks : List Nat → List Tok → Prop
  | nil : Toks [] []
  | sp {s : List Nat} {ts : List Tok} : Toks s ts → Toks (32 :: s) ts
  | tk {c : Nat} {s : List Nat} {ts : List Tok} : c ≠ 32 → Toks ((c :: s).drop (tok c s).t.length) ts → Toks (c :: s) (tok c s :: ts)
theorem tok_len (c : Nat) (s : List Nat) : 0 < (tok c s).t.length ∧ (tok c s).t.length ≤ s.length + 1 := by
  have pos : ∀ p : Nat → Bool, p c = true → 0 < ((c :: s).takeWhile p).length := fun p h => by
    rw [List.takeWhile_cons, h, if_pos rfl]; exact Nat.succ_pos _
  have tL := tw_le (p := isL) (c :: s)
  have tD := tw_le (p := isD) (c :: s)
  have tM := tw_le (p := isD) s
  rw [List.length_cons] at tL tD
  unfold tok
  cases hL : isL c with
  | true =>
    rw [if_pos rfl]
    have := pos isL hL
    split <;> exact ⟨this, tL⟩
  | false =>
    rw [if_neg (by decide)]
    cases hD : isD c with
    | true =>
      rw [if_pos rfl]
      have := pos isD hD
      split <;> exact ⟨this, tD⟩
    | false =>
      rw [if_neg (by decide)]
      split
      · split
        · exact ⟨Nat.succ_pos _, by show (s.takeWhile isD).length + 1 ≤ _; omega⟩
        · exact ⟨Nat.succ_pos _, by show 1 ≤ _; omega⟩
      · exact ⟨Nat.succ_pos _, by show 1 ≤ _; omega⟩
theorem lt_toks {n : Nat} : ∀ l : List Tok, ltL (l.map Tok.d) n = true
  | [] => rfl
  | a :: l => by rw [List.map_cons]; show (a.d.lt n && ltL (l.map Tok.d) n) = true; rw [show a.d.lt n = true from rfl, lt_toks l]; rfl
section
variable {S : Store} {l : List Nat}
theorem toks_loop (hl : l.length ≤ 5000) (hc : ∀ c ∈ l, c < 128) {s : List Nat} {ts : List Tok} (h : Toks s ts) : ∀ (e n : Nat) (acc : List Tok) (x3 : Option D), l.drop e = s → s.length < n → acc.length + s.length < 100000 →
    ∃ e' y3, whileL (ev w_tokens_1) (exs b_tokens_1) n [some (.str (sl l)), some (.ptr S.length), some (.int (e : Int)), x3] (S ++ [.lst (acc.map Tok.d)]) = .nx [some (.str (sl l)), some (.ptr S.length), some (.int e'), y3] (S ++ [.lst ((acc ++ ts).map Tok.d)]) := by
  induction h with
  | nil =>
    intro e n acc x3 hd hn ha
    obtain ⟨n, rfl⟩ : ∃ k, n = k + 1 := ⟨n - 1, by simp at hn; omega⟩
    have hd : l.length ≤ e := by rw [List.drop_eq_nil_iff] at hd; exact hd
    have c : ev w_tokens_1 [some (.str (sl l)), some (.ptr S.length), some (.int (e : Int)), x3] (S ++ [.lst (acc.map Tok.d)]) = .ok (.bl false) (S ++ [.lst (acc.map Tok.d)]) := by
      unfold w_tokens_1
      simp only [bind_ok, fl_ok, of_some, seq_nx, seq_ret, pick_t, pick_f, getV_ok, putE_ok, putS_ok, ev_var, ev_non, ev_bl, ev_int, ev_str, ev_glob, ev_bin, ev_cmp, negD_int, ev_neg, notD_bl, ev_not, ev_band, ev_bor, pickE_t, pickE_f, and_1, and_c, or_1, or_c, ev_chain, ev_isN, ev_notN, ev_ite, ev_call, ev_bi, ev_tup, ev_new, new_f, ev_dnewK, ev_dnewT, ev_ix, ev_sl, ev_frz, evs_nil, evs_cons, evN_n, intN_int, evN_s, evO_n, evO_s, evL_disp, ev_join, joinM_s, evL_sorted, evL_sortk, evL_list, evL_keys, seq_lst, seq_tup, ex_putp, evL_cm, evI_seq, evI_rng1, evI_rng2, evI_enum, exs_nil, exs_cons, exs_frz, ex_asg, setT_n, ex_par, ex_put, ex_aug, augD_ok, ex_drop, ex_app, ex_ifs, ex_for, ex_while, ex_ret, ex_retN, ex_pass, unlock_nx, unlock_ret, lock_seq, lock_rng1, lock_rng2, lock_enum, lock_text, cmp_lt, cmp_le, cmp_gt, cmp_ge, cmp_eqi, cmp_nei, cmp_eqb, cmp_neb, b_add, b_sub, bi_abs, bi_int, len_lst, len_tup, len_scr, ix_lst, ix_tup, ix_scr, at_0, at_1, at_2, at_3, isN_non, isN_int, isN_tup, isN_lst, isN_str, isN_bl, List.getElem?_cons_succ, List.getElem?_cons_zero, Option.map_some, List.set_cons_succ, List.set_cons_zero, len_sl (show l.length ≤ 1000000 by omega), decide_eq_false (show ¬ (e : Int) < (l.length : Int) by omega)]
    exact ⟨e, x3, by rw [while_f c, List.append_nil]⟩
  | @sp s ts h ih =>
    intro e n acc x3 hd hn ha
    obtain ⟨n, rfl⟩ : ∃ k, n = k + 1 := ⟨n - 1, by rw [List.length_cons] at hn; omega⟩
    rw [List.length_cons] at hn ha
    obtain ⟨h1, h2, h3⟩ := drop_cons hd
    have ix := ix_sl (S := S ++ [.lst (acc.map Tok.d)]) (l := l) (i := e) (c := 32) (by omega) h1
    have c : ev w_tokens_1 [some (.str (sl l)), some (.ptr S.length), some (.int (e : Int)), x3] (S ++ [.lst (acc.map Tok.d)]) = .ok (.bl true) (S ++ [.lst (acc.map Tok.d)]) := by
      unfold w_tokens_1
      simp only [bind_ok, fl_ok, of_some, seq_nx, seq_ret, pick_t, pick_f, getV_ok, putE_ok, putS_ok, ev_var, ev_non, ev_bl, ev_int, ev_str, ev_glob, ev_bin, ev_cmp, negD_int, ev_neg, notD_bl, ev_not, ev_band, ev_bor, pickE_t, pickE_f, and_1, and_c, or_1, or_c, ev_chain, ev_isN, ev_notN, ev_ite, ev_call, ev_bi, ev_tup, ev_new, new_f, ev_dnewK, ev_dnewT, ev_ix, ev_sl, ev_frz, evs_nil, evs_cons, evN_n, intN_int, evN_s, evO_n, evO_s, evL_disp, ev_join, joinM_s, evL_sorted, evL_sortk, evL_list, evL_keys, seq_lst, seq_tup, ex_putp, evL_cm, evI_seq, evI_rng1, evI_rng2, evI_enum, exs_nil, exs_cons, exs_frz, ex_asg, setT_n, ex_par, ex_put, ex_aug, augD_ok, ex_drop, ex_app, ex_ifs, ex_for, ex_while, ex_ret, ex_retN, ex_pass, unlock_nx, unlock_ret, lock_seq, lock_rng1, lock_rng2, lock_enum, lock_text, cmp_lt, cmp_le, cmp_gt, cmp_ge, cmp_eqi, cmp_nei, cmp_eqb, cmp_neb, b_add, b_sub, bi_abs, bi_int, len_lst, len_tup, len_scr, ix_lst, ix_tup, ix_scr, at_0, at_1, at_2, at_3, isN_non, isN_int, isN_tup, isN_lst, isN_str, isN_bl, List.getElem?_cons_succ, List.getElem?_cons_zero, Option.map_some, List.set_cons_succ, List.set_cons_zero, len_sl (show l.length ≤ 1000000 by omega), decide_eq_true (show (e : Int) < (l.length : Int) by omega)]
    have es : (sl [32] == (" " : Str)) = true := rfl
    have b : exs b_tokens_1 [some (.str (sl l)), some (.ptr S.length), some (.int (e : Int)), x3] (S ++ [.lst (acc.map Tok.d)]) = .nx [some (.str (sl l)), some (.ptr S.length), some (.int ((e : Int) + 1)), x3] (S ++ [.lst (acc.map Tok.d)]) := by
      unfold b_tokens_1
      simp only [bind_ok, fl_ok, of_some, seq_nx, seq_ret, pick_t, pick_f, getV_ok, putE_ok, putS_ok, ev_var, ev_non, ev_bl, ev_int, ev_str, ev_glob, ev_bin, ev_cmp, negD_int, ev_neg, notD_bl, ev_not, ev_band, ev_bor, pickE_t, pickE_f, and_1, and_c, or_1, or_c, ev_chain, ev_isN, ev_notN, ev_ite, ev_call, ev_bi, ev_tup, ev_new, new_f, ev_dnewK, ev_dnewT, ev_ix, ev_sl, ev_frz, evs_nil, evs_cons, evN_n, intN_int, evN_s, evO_n, evO_s, evL_disp, ev_join, joinM_s, evL_sorted, evL_sortk, evL_list, evL_keys, seq_lst, seq_tup, ex_putp, evL_cm, evI_seq, evI_rng1, evI_rng2, evI_enum, exs_nil, exs_cons, exs_frz, ex_asg, setT_n, ex_par, ex_put, ex_aug, augD_ok, ex_drop, ex_app, ex_ifs, ex_for, ex_while, ex_ret, ex_retN, ex_pass, unlock_nx, unlock_ret, lock_seq, lock_rng1, lock_rng2, lock_enum, lock_text, cmp_lt, cmp_le, cmp_gt, cmp_ge, cmp_eqi, cmp_nei, cmp_eqb, cmp_neb, b_add, b_sub, bi_abs, bi_int, len_lst, len_tup, len_scr, ix_lst, ix_tup, ix_scr, at_0, at_1, at_2, at_3, isN_non, isN_int, isN_tup, isN_lst, isN_str, isN_bl, List.getElem?_cons_succ, List.getElem?_cons_zero, Option.map_some, List.set_cons_succ, List.set_cons_zero, ix, cmp_eqs, es]
    obtain ⟨e', y3, q⟩ := ih (e + 1) n acc x3 h2 (by omega) (by omega)
    refine ⟨e', y3, ?_⟩
    rw [while_t c b, show (e : Int) + 1 = ((e + 1 : Nat) : Int) by omega, q]
  | @tk ch s ts hne h ih =>
    intro e n acc x3 hd hn ha
    obtain ⟨n, rfl⟩ : ∃ k, n = k + 1 := ⟨n - 1, by rw [List.length_cons] at hn; omega⟩
    rw [List.length_cons] at hn ha
    obtain ⟨h1, h2, h3⟩ := drop_cons hd
    have ix := ix_sl (S := S ++ [.lst (acc.map Tok.d)]) (l := l) (i := e) (c := ch) (by omega) h1
    have c : ev w_tokens_1 [some (.str (sl l)), some (.ptr S.length), some (.int (e : Int)), x3] (S ++ [.lst (acc.map Tok.d)]) = .ok (.bl true) (S ++ [.lst (acc.map Tok.d)]) := by
      unfold w_tokens_1
      simp only [bind_ok, fl_ok, of_some, seq_nx, seq_ret, pick_t, pick_f, getV_ok, putE_ok, putS_ok, ev_var, ev_non, ev_bl, ev_int, ev_str, ev_glob, ev_bin, ev_cmp, negD_int, ev_neg, notD_bl, ev_not, ev_band, ev_bor, pickE_t, pickE_f, and_1, and_c, or_1, or_c, ev_chain, ev_isN, ev_notN, ev_ite, ev_call, ev_bi, ev_tup, ev_new, new_f, ev_dnewK, ev_dnewT, ev_ix, ev_sl, ev_frz, evs_nil, evs_cons, evN_n, intN_int, evN_s, evO_n, evO_s, evL_disp, ev_join, joinM_s, evL_sorted, evL_sortk, evL_list, evL_keys, seq_lst, seq_tup, ex_putp, evL_cm, evI_seq, evI_rng1, evI_rng2, evI_enum, exs_nil, exs_cons, exs_frz, ex_asg, setT_n, ex_par, ex_put, ex_aug, augD_ok, ex_drop, ex_app, ex_ifs, ex_for, ex_while, ex_ret, ex_retN, ex_pass, unlock_nx, unlock_ret, lock_seq, lock_rng1, lock_rng2, lock_enum, lock_text, cmp_lt, cmp_le, cmp_gt, cmp_ge, cmp_eqi, cmp_nei, cmp_eqb, cmp_neb, b_add, b_sub, bi_abs, bi_int, len_lst, len_tup, len_scr, ix_lst, ix_tup, ix_scr, at_0, at_1, at_2, at_3, isN_non, isN_int, isN_tup, isN_lst, isN_str, isN_bl, List.getElem?_cons_succ, List.getElem?_cons_zero, Option.map_some, List.set_cons_succ, List.set_cons_zero, len_sl (show l.length ≤ 1000000 by omega), decide_eq_true (show (e : Int) < (l.length : Int) by omega)]
    have es : (sl [ch] == (" " : Str)) = false := by
      rw [show (" " : Str) = sl [32] from rfl, sl_beq]
      simpa using hne
    have tk := r_token (S := S ++ [.lst (acc.map Tok.d)]) hl hc hd
    have tl := tok_len ch s
    have lls : l.length = e + (s.length + 1) := by
      have := congrArg List.length hd
      rw [List.length_drop, List.length_cons] at this
      omega
    generalize tok ch s = T at *
    have t1 : ∀ S, ixD T.d (.int 1) S = some (.str (sl T.t)) := fun S => (ix_tup).trans at_1
    have ap := app_d (S := S) (l := acc.map Tok.d) (d := T.d) (by simp; omega) rfl
    rw [show acc.map Tok.d ++ [T.d] = (acc ++ [T]).map Tok.d by rw [List.map_append]; rfl] at ap
    have b : exs b_tokens_1 [some (.str (sl l)), some (.ptr S.length), some (.int (e : Int)), x3] (S ++ [.lst (acc.map Tok.d)]) = .nx [some (.str (sl l)), some (.ptr S.length), some (.int ((e : Int) + (T.t.length : Int))), some T.d] (S ++ [.lst ((acc ++ [T]).map Tok.d)]) := by
      unfold b_tokens_1
      simp only [bind_ok, fl_ok, of_some, seq_nx, seq_ret, pick_t, pick_f, getV_ok, putE_ok, putS_ok, ev_var, ev_non, ev_bl, ev_int, ev_str, ev_glob, ev_bin, ev_cmp, negD_int, ev_neg, notD_bl, ev_not, ev_band, ev_bor, pickE_t, pickE_f, and_1, and_c, or_1, or_c, ev_chain, ev_isN, ev_notN, ev_ite, ev_call, ev_bi, ev_tup, ev_new, new_f, ev_dnewK, ev_dnewT, ev_ix, ev_sl, ev_frz, evs_nil, evs_cons, evN_n, intN_int, evN_s, evO_n, evO_s, evL_disp, ev_join, joinM_s, evL_sorted, evL_sortk, evL_list, evL_keys, seq_lst, seq_tup, ex_putp, evL_cm, evI_seq, evI_rng1, evI_rng2, evI_enum, exs_nil, exs_cons, exs_frz, ex_asg, setT_n, ex_par, ex_put, ex_aug, augD_ok, ex_drop, ex_app, ex_ifs, ex_for, ex_while, ex_ret, ex_retN, ex_pass, unlock_nx, unlock_ret, lock_seq, lock_rng1, lock_rng2, lock_enum, lock_text, cmp_lt, cmp_le, cmp_gt, cmp_ge, cmp_eqi, cmp_nei, cmp_eqb, cmp_neb, b_add, b_sub, bi_abs, bi_int, len_lst, len_tup, len_scr, ix_lst, ix_tup, ix_scr, at_0, at_1, at_2, at_3, isN_non, isN_int, isN_tup, isN_lst, isN_str, isN_bl, List.getElem?_cons_succ, List.getElem?_cons_zero, Option.map_some, List.set_cons_succ, List.set_cons_zero, ix, cmp_eqs, es, tk, cell_s, if_true, ap, t1, len_sl (show T.t.length ≤ 1000000 by omega)]
    obtain ⟨e', y3, q⟩ := ih (e + T.t.length) n (acc ++ [T]) (some T.d) (by rw [← List.drop_drop, hd]) (by rw [List.length_drop, List.length_cons]; omega) (by rw [List.length_append, List.length_drop, List.length_cons]; simp; omega)
    refine ⟨e', y3, ?_⟩
    rw [while_t c b, show (e : Int) + (T.t.length : Int) = ((e + T.t.length : Nat) : Int) by omega, q, List.append_assoc]
    rfl
theorem r_tokens (hl : l.length ≤ 5000) (hc : ∀ c ∈ l, c < 128) {ts : List Tok} (h : Toks l ts) : f_tokens [.str (sl l)] S = .ok (.lst (ts.map Tok.d)) S := by
  obtain ⟨e', y3, q⟩ := toks_loop (S := S) hl hc h 0 10000 [] none rfl (by omega) (by simp; omega)
  rw [List.nil_append] at q
  have q' : whileL (ev w_tokens_1) (exs b_tokens_1) 10000 [some (.str (sl l)), some (.ptr S.length), some (.int 0), none] (S ++ [.lst []]) = _ := q
  have h1 : exs c_tokens [some (.str (sl l)), none, none, none] S = .ret (.lst (ts.map Tok.d)) (S ++ [.dead]) := by
    unfold c_tokens
    simp only [bind_ok, fl_ok, of_some, seq_nx, seq_ret, pick_t, pick_f, getV_ok, putE_ok, putS_ok, ev_var, ev_non, ev_bl, ev_int, ev_str, ev_glob, ev_bin, ev_cmp, negD_int, ev_neg, notD_bl, ev_not, ev_band, ev_bor, pickE_t, pickE_f, and_1, and_c, or_1, or_c, ev_chain, ev_isN, ev_notN, ev_ite, ev_call, ev_bi, ev_tup, ev_new, new_f, ev_dnewK, ev_dnewT, ev_ix, ev_sl, ev_frz, evs_nil, evs_cons, evN_n, intN_int, evN_s, evO_n, evO_s, evL_disp, ev_join, joinM_s, evL_sorted, evL_sortk, evL_list, evL_keys, seq_lst, seq_tup, ex_putp, evL_cm, evI_seq, evI_rng1, evI_rng2, evI_enum, exs_nil, exs_cons, exs_frz, ex_asg, setT_n, ex_par, ex_put, ex_aug, augD_ok, ex_drop, ex_app, ex_ifs, ex_for, ex_while, ex_ret, ex_retN, ex_pass, unlock_nx, unlock_ret, lock_seq, lock_rng1, lock_rng2, lock_enum, lock_text, cmp_lt, cmp_le, cmp_gt, cmp_ge, cmp_eqi, cmp_nei, cmp_eqb, cmp_neb, b_add, b_sub, bi_abs, bi_int, len_lst, len_tup, len_scr, ix_lst, ix_tup, ix_scr, at_0, at_1, at_2, at_3, isN_non, isN_int, isN_tup, isN_lst, isN_str, isN_bl, List.getElem?_cons_succ, List.getElem?_cons_zero, Option.map_some, List.set_cons_succ, List.set_cons_zero, new_s, q', getF_s]
  have lt : (D.lst (ts.map Tok.d)).lt S.length = true := lt_toks ts
  generalize ts.map Tok.d = out at h1 lt ⊢
  have h2 : f_tokens [.str (sl l)] S = expo S.length (.lst out) (S ++ [.dead]) := fn_ret (a := 1) (k := 4) (b := c_tokens) (ds := [.str (sl l)]) rfl h1
  rw [h2, expo_flat lt, List.take_left]
end
end MI.K
set_option exponentiation.threshold 5000
namespace MI.K
open PySem PySem.Spec L2
/-! ### rows that are put together -/
def Okc (t rest : List Nat) : Prop := ∀ c r, rest = c :: r → (∀ d, t.getLast? = some d → (isL d = true → isL c = false) ∧ (isD d = true → isD c = false)) ∧ (t = [45] → isD c = false)
structure Row (tx : List Nat) (rows : List Tok) : Prop where
  ne : tx ≠ []
  hd : ∃ t ts, rows = t :: ts ∧ t.t.head? = tx.head?
  lst : ∃ ts t, rows = ts ++ [t] ∧ t.t ≠ []
  ln : rows.length ≤ 2
  len : tx.length ≤ 20
  asc : ∀ c ∈ tx, c < 128
  each : ∀ t ∈ rows, t.t ≠ [] ∧ t.t.length ≤ 20 ∧ ∀ c ∈ t.t, c < 128
  jo : joinD "" (some (rows.map fun t => .str (sl t.t))) = some (.str (sl tx))
  go : ∀ (rest : List Nat) (ts : List Tok), (∀ t, rows.getLast? = some t → Okc t.t rest) → Toks rest ts → Toks (tx ++ rest) (rows ++ ts)
theorem tw_app {p : Nat → Bool} {rest : List Nat} : ∀ w : List Nat, (∀ c ∈ w, p c = true) → (∀ c r, rest = c :: r → p c = false) → (w ++ rest).takeWhile p = w
  | [], _, h => by
    cases rest with
    | nil => rfl
    | cons c r => rw [List.nil_append, List.takeWhile_cons, h c r rfl]; rfl
  | c :: w, h, g => by
    rw [List.cons_append, List.takeWhile_cons, h c List.mem_cons_self, if_pos rfl, tw_app w (fun y hy => h y (List.mem_cons_of_mem _ hy)) g]
theorem last_all {p : Nat → Bool} {w : List Nat} (hw : w ≠ []) (h : ∀ c ∈ w, p c = true) : ∃ d, w.getLast? = some d ∧ p d = true :=
  ⟨w.getLast hw, List.getLast?_eq_some_getLast hw, h _ (List.getLast_mem hw)⟩
theorem joD1 (a : List Nat) (h : a.length ≤ 1000) : joinD "" (some [.str (sl a)]) = some (.str (sl a)) := by
  show (if ([sl a].map (·.length)).sum + [sl a].length * ("" : Str).length ≤ 1000000 then some (D.str (Txt.join "" [sl a])) else none) = _
  rw [if_pos (by simp [sl_len]; show a.length + 0 ≤ _; omega)]
  rfl
theorem joD2 (a b : List Nat) (h : a.length ≤ 1000) (h2 : b.length ≤ 1000) : joinD "" (some [.str (sl a), .str (sl b)]) = some (.str (sl (a ++ b))) := by
  show (if ([sl a, sl b].map (·.length)).sum + [sl a, sl b].length * ("" : Str).length ≤ 1000000 then some (D.str (Txt.join "" [sl a, sl b])) else none) = _
  rw [if_pos (by simp [sl_len]; show a.length + b.length + 2 * 0 ≤ _; omega)]
  show some (D.str ⟨a.toArray ++ #[] ++ b.toArray⟩) = some (D.str ⟨(a ++ b).toArray⟩)
  simp
theorem L_not_D {c : Nat} (h : isL c = true) : isD c = false := by
  unfold isL at h; unfold isD
  simp at h ⊢; omega
theorem D_not_L {c : Nat} (h : isD c = true) : isL c = false := by
  unfold isD at h; unfold isL
  simp at h ⊢; omega
theorem L_not_sp {c : Nat} (h : isL c = true) : c ≠ 32 := by unfold isL at h; simp at h; omega
theorem D_not_sp {c : Nat} (h : isD c = true) : c ≠ 32 := by unfold isD at h; simp at h; omega
theorem drop_len {w rest : List Nat} : (w ++ rest).drop w.length = rest := List.drop_left
def wKind (w : List Nat) : Str := if w.length > 8 then "bad" else "word"
def nKind (w : List Nat) : Str := if isNum w then "number" else "bad"
theorem row_word {w : List Nat} (hw : w ≠ []) (h : ∀ c ∈ w, isL c = true) (hl : w.length ≤ 12) : Row w [⟨wKind w, w⟩] := by
  refine ⟨hw, ⟨_, _, rfl, rfl⟩, ⟨[], _, rfl, hw⟩, by simp, by omega, fun c hc => by have := h c hc; unfold isL at this; simp at this; omega, fun t ht => by rw [List.mem_singleton.mp ht]; exact ⟨hw, by show w.length ≤ 20; omega, fun c hc => by have := h c hc; unfold isL at this; simp at this; omega⟩, joD1 w (by omega), fun rest ts ok hT => ?_⟩
  have ok := ok _ rfl
  obtain ⟨d, hd, hld⟩ := last_all hw h
  have tw : (w ++ rest).takeWhile isL = w := tw_app w h fun c r e => ((ok c r e).1 d hd).1 hld
  cases w with
  | nil => exact absurd rfl hw
  | cons c s =>
    have hc := h c List.mem_cons_self
    have tw' : (c :: (s ++ rest)).takeWhile isL = c :: s := tw
    have e : tok c (s ++ rest) = ⟨wKind (c :: s), c :: s⟩ := by
      unfold tok wKind
      rw [if_pos hc, tw']
      split <;> rfl
    have q : Toks (c :: (s ++ rest)) (tok c (s ++ rest) :: ts) := .tk (L_not_sp hc) (by
      rw [e]
      show Toks ((c :: s ++ rest).drop (c :: s).length) ts
      rw [drop_len]; exact hT)
    rw [e] at q
    exact q
theorem toks_num {w rest : List Nat} {ts : List Tok} (hw : w ≠ []) (h : ∀ c ∈ w, isD c = true) (ok : ∀ c r, rest = c :: r → isD c = false) (hT : Toks rest ts) : Toks (w ++ rest) (⟨nKind w, w⟩ :: ts) := by
  have tw : (w ++ rest).takeWhile isD = w := tw_app w h ok
  cases w with
  | nil => exact absurd rfl hw
  | cons c s =>
    have hc := h c List.mem_cons_self
    have tw' : (c :: (s ++ rest)).takeWhile isD = c :: s := tw
    have e : tok c (s ++ rest) = ⟨nKind (c :: s), c :: s⟩ := by
      unfold tok nKind
      rw [if_neg (by rw [D_not_L hc]; decide), if_pos hc, tw']
      split <;> rfl
    have q : Toks (c :: (s ++ rest)) (tok c (s ++ rest) :: ts) := .tk (D_not_sp hc) (by
      rw [e]
      show Toks ((c :: s ++ rest).drop (c :: s).length) ts
      rw [drop_len]; exact hT)
    rw [e] at q
    exact q
theorem D_lt {w : List Nat} (h : ∀ c ∈ w, isD c = true) : ∀ c ∈ w, c < 128 := fun c hc => by have := h c hc; unfold isD at this; simp at this; omega
theorem row_num {w : List Nat} (hw : w ≠ []) (h : ∀ c ∈ w, isD c = true) (hl : w.length ≤ 12) : Row w [⟨nKind w, w⟩] := by
  refine ⟨hw, ⟨_, _, rfl, rfl⟩, ⟨[], _, rfl, hw⟩, by simp, by omega, D_lt h, fun t ht => by rw [List.mem_singleton.mp ht]; exact ⟨hw, by show w.length ≤ 20; omega, D_lt h⟩, joD1 w (by omega), fun rest ts ok hT => ?_⟩
  have ok := ok _ rfl
  obtain ⟨d, hd, hld⟩ := last_all hw h
  exact toks_num hw h (fun c r e => ((ok c r e).1 d hd).2 hld) hT
theorem dash_asc {w : List Nat} (h : ∀ c ∈ w, isD c = true) : ∀ c ∈ 45 :: w, c < 128 := fun c hc => by
  rcases List.mem_cons.mp hc with e | e
  · omega
  · exact D_lt h c e
theorem row_neg {w : List Nat} (hw : w ≠ []) (h : ∀ c ∈ w, isD c = true) (hl : w.length ≤ 12) (hn : isNum w = true) (h0 : w ≠ [48]) : Row (45 :: w) [⟨"number", 45 :: w⟩] := by
  refine ⟨List.cons_ne_nil _ _, ⟨_, _, rfl, rfl⟩, ⟨[], _, rfl, List.cons_ne_nil _ _⟩, by simp, by rw [List.length_cons]; omega, dash_asc h, fun t ht => by rw [List.mem_singleton.mp ht]; exact ⟨List.cons_ne_nil _ _, by show (45 :: w).length ≤ 20; rw [List.length_cons]; omega, dash_asc h⟩, joD1 _ (by rw [List.length_cons]; omega), fun rest ts ok hT => ?_⟩
  · have ok := ok _ rfl
    obtain ⟨d, hd, hld⟩ := last_all hw h
    have hd' : (45 :: w).getLast? = some d := by
      rw [List.getLast?_cons, hd]; rfl
    have tw : (w ++ rest).takeWhile isD = w := tw_app w h fun c r e => ((ok c r e).1 d hd').2 hld
    have e : tok 45 (w ++ rest) = ⟨"number", 45 :: w⟩ := by
      unfold tok
      rw [if_neg (by decide), if_neg (by decide), if_pos rfl, tw, if_pos ⟨hw, h0, hn⟩]
    have q : Toks (45 :: (w ++ rest)) (tok 45 (w ++ rest) :: ts) := .tk (by decide) (by
      rw [e]
      show Toks ((45 :: w ++ rest).drop (45 :: w).length) ts
      rw [drop_len]; exact hT)
    rw [e] at q
    exact q
theorem row_dash {w : List Nat} (hw : w ≠ []) (h : ∀ c ∈ w, isD c = true) (hl : w.length ≤ 12) (hn : isNum w = false ∨ w = [48]) : Row (45 :: w) [⟨"bad", [45]⟩, ⟨nKind w, w⟩] := by
  refine ⟨List.cons_ne_nil _ _, ⟨_, _, rfl, rfl⟩, ⟨[_], _, rfl, hw⟩, by simp, by rw [List.length_cons]; omega, dash_asc h, fun t ht => by
    rcases List.mem_cons.mp ht with z | z
    · rw [z]; exact ⟨List.cons_ne_nil _ _, by show 1 ≤ 20; decide, fun c hc => by rw [List.mem_singleton.mp hc]; decide⟩
    · rw [List.mem_singleton.mp z]; exact ⟨hw, by show w.length ≤ 20; omega, D_lt h⟩, joD2 [45] w (by simp) (by omega), fun rest ts ok hT => ?_⟩
  · have ok := ok _ rfl
    obtain ⟨d, hd, hld⟩ := last_all hw h
    have ok2 : ∀ c r, rest = c :: r → isD c = false := fun c r e => ((ok c r e).1 d hd).2 hld
    have tw : (w ++ rest).takeWhile isD = w := tw_app w h ok2
    have e : tok 45 (w ++ rest) = ⟨"bad", [45]⟩ := by
      unfold tok
      rw [if_neg (by decide), if_neg (by decide), if_pos rfl, tw, if_neg (by
        rintro ⟨_, g1, g2⟩
        rcases hn with z | z
        · rw [z] at g2; cases g2
        · exact g1 z)]
    have q : Toks (45 :: (w ++ rest)) (tok 45 (w ++ rest) :: (⟨nKind w, w⟩ :: ts)) := .tk (by decide) (by
      rw [e]
      exact toks_num hw h ok2 hT)
    rw [e] at q
    exact q
theorem row_other {c : Nat} (hL : isL c = false) (hD : isD c = false) (h32 : c ≠ 32) (hc : c < 128) : Row [c] [⟨"bad", [c]⟩] := by
  refine ⟨List.cons_ne_nil _ _, ⟨_, _, rfl, rfl⟩, ⟨[], _, rfl, List.cons_ne_nil _ _⟩, by simp, by simp, fun x hx => by rw [List.mem_singleton.mp hx]; exact hc, fun t ht => by rw [List.mem_singleton.mp ht]; exact ⟨List.cons_ne_nil _ _, by show 1 ≤ 20; decide, fun x hx => by rw [List.mem_singleton.mp hx]; exact hc⟩, joD1 _ (by simp), fun rest ts ok hT => ?_⟩
  have ok := ok _ rfl
  have e : tok c rest = ⟨"bad", [c]⟩ := by
    unfold tok
    rw [if_neg (by rw [hL]; decide), if_neg (by rw [hD]; decide)]
    by_cases h45 : c = 45
    · rw [if_pos h45]
      have tw : rest.takeWhile isD = [] := by
        have := tw_app (p := isD) (rest := rest) [] (fun _ h => (List.not_mem_nil h).elim) fun x r e => (ok x r e).2 (by rw [h45]; rfl)
        exact this
      rw [tw, if_neg (fun z => z.1 rfl)]
    · rw [if_neg h45]
  have q : Toks (c :: rest) (tok c rest :: ts) := .tk h32 (by rw [e]; exact hT)
  rw [e] at q
  exact q
end MI.K
set_option exponentiation.threshold 5000
namespace MI.K
open PySem PySem.Spec L2
theorem bi_intb {b : Bool} {S : Store} : biD .int [.bl b] S = some (.int (if b then 1 else 0)) := (rfl)
theorem at_bool {a b : D} {t : Bool} : atI [a, b] (if t then 1 else 0) = some (if t then b else a) := by
  cases t
  · exact at_0
  · exact at_1
theorem at_map {α : Type} {g : α → D} {l : List α} {j : Nat} {a : α} (h : l[j]? = some a) : atI (l.map g) (j : Int) = some (g a) := atI_nat (by rw [List.getElem?_map, h]; rfl)
theorem r_run {ds : List Int} {k : Nat} {m : Int} {cl : List Nat} {T : Store} (h0 : 0 ≤ m) (h1 : m ≤ 1000) (hc : 0 < cl.length) (hc2 : cl.length ≤ 1000) :
    ∃ r k', f_Lrun [.ptr 0, .int m, .str (sl cl)] (bxC ds k :: T) = .ok (.str (sl r)) (bxC ds k' :: T) ∧ (r.length : Int) = m ∧ ∀ c ∈ r, c ∈ cl := by
  obtain ⟨ρ', S', q1, q2⟩ := forL_inv (f := turnF (.name 4) b_Lrun_1) (I := fun i ρ S => ∃ z k' x4, ρ = [some (.ptr 0), some (.int m), some (.str (sl cl)), some (.str (sl z)), x4] ∧ S = bxC ds k' :: T ∧ z.length = i ∧ ∀ c ∈ z, c ∈ cl) (rangeD 0 m) 0
    [some (.ptr 0), some (.int m), some (.str (sl cl)), some (.str ""), none] (bxC ds k :: T) ⟨[], k, none, rfl, rfl, rfl, fun c h => (List.not_mem_nil h).elim⟩ (by
    rintro i d ρ S hd ⟨z, k', x4, rfl, rfl, hz, hm⟩
    obtain ⟨rfl, hj⟩ := rangeD_get hd
    have hl := drw_lt (ds := ds) (k := k') (m := (cl.length : Int)) (by omega)
    obtain ⟨n, hn⟩ : ∃ n : Nat, drw ds k' (cl.length : Int) = (n : Int) := ⟨_, (Int.toNat_of_nonneg hl.1).symm⟩
    have hn2 : n < cl.length := by omega
    have ec := ix_sl (S := bxC ds (k' + 1) :: T) (l := cl) (i := n) (c := cl[n]) (by omega) (List.getElem?_eq_getElem hn2)
    have dr := r_Ldraw (ds := ds) (k := k') (T := T) (show (0 : Int) < (cl.length : Int) by omega)
    rw [hn] at dr
    refine ⟨_, _, ?_, z ++ [cl[n]], k' + 1, some (.int (0 + (i : Int))), rfl, rfl, by rw [List.length_append, hz]; rfl, fun c h => ?_⟩
    · show exs b_Lrun_1 [some (.ptr 0), some (.int m), some (.str (sl cl)), some (.str (sl z)), some (.int (0 + (i : Int)))] (bxC ds k' :: T) = _
      unfold b_Lrun_1
      simp only [bind_ok, fl_ok, of_some, seq_nx, seq_ret, pick_t, pick_f, getV_ok, putE_ok, putS_ok, ev_var, ev_non, ev_bl, ev_int, ev_str, ev_glob, ev_bin, ev_cmp, negD_int, ev_neg, notD_bl, ev_not, ev_band, ev_bor, pickE_t, pickE_f, and_1, and_c, or_1, or_c, ev_chain, ev_isN, ev_notN, ev_ite, ev_call, ev_bi, ev_tup, ev_new, new_f, ev_dnewK, ev_dnewT, ev_ix, ev_sl, ev_frz, evs_nil, evs_cons, evN_n, intN_int, evN_s, evO_n, evO_s, evL_disp, ev_join, joinM_s, evL_sorted, evL_sortk, evL_list, evL_keys, seq_lst, seq_tup, ex_putp, evL_cm, evI_seq, evI_rng1, evI_rng2, evI_enum, exs_nil, exs_cons, exs_frz, ex_asg, setT_n, ex_par, ex_put, ex_aug, augD_ok, ex_drop, ex_app, ex_ifs, ex_for, ex_while, ex_ret, ex_retN, ex_pass, unlock_nx, unlock_ret, lock_seq, lock_rng1, lock_rng2, lock_enum, lock_text, cmp_lt, cmp_le, cmp_gt, cmp_ge, cmp_eqi, cmp_nei, cmp_eqb, cmp_neb, b_add, b_sub, bi_abs, bi_int, len_lst, len_tup, len_scr, ix_lst, ix_tup, ix_scr, at_0, at_1, at_2, at_3, isN_non, isN_int, isN_tup, isN_lst, isN_str, isN_bl, List.getElem?_cons_succ, List.getElem?_cons_zero, Option.map_some, List.set_cons_succ, List.set_cons_zero, len_sl (show cl.length ≤ 1000000 by omega), dr, ec, add_sl (show z.length + [cl[n]].length ≤ 1000000 by simp; omega)]
    · rcases List.mem_append.mp h with e | e
      · exact hm c e
      · rw [List.mem_singleton.mp e]; exact List.getElem_mem hn2)
  obtain ⟨z, k', x4, rfl, rfl, hz, hm⟩ := q2
  rw [rangeD_len] at hz
  refine ⟨z, k', fn_same (k := 5) rfl ?_ rfl rfl, by omega, hm⟩
  show exs c_Lrun [some (.ptr 0), some (.int m), some (.str (sl cl)), none, none] (bxC ds k :: T) = _
  unfold c_Lrun
  simp only [bind_ok, fl_ok, of_some, seq_nx, seq_ret, pick_t, pick_f, getV_ok, putE_ok, putS_ok, ev_var, ev_non, ev_bl, ev_int, ev_str, ev_glob, ev_bin, ev_cmp, negD_int, ev_neg, notD_bl, ev_not, ev_band, ev_bor, pickE_t, pickE_f, and_1, and_c, or_1, or_c, ev_chain, ev_isN, ev_notN, ev_ite, ev_call, ev_bi, ev_tup, ev_new, new_f, ev_dnewK, ev_dnewT, ev_ix, ev_sl, ev_frz, evs_nil, evs_cons, evN_n, intN_int, evN_s, evO_n, evO_s, evL_disp, ev_join, joinM_s, evL_sorted, evL_sortk, evL_list, evL_keys, seq_lst, seq_tup, ex_putp, evL_cm, evI_seq, evI_rng1, evI_rng2, evI_enum, exs_nil, exs_cons, exs_frz, ex_asg, setT_n, ex_par, ex_put, ex_aug, augD_ok, ex_drop, ex_app, ex_ifs, ex_for, ex_while, ex_ret, ex_retN, ex_pass, unlock_nx, unlock_ret, lock_seq, lock_rng1, lock_rng2, lock_enum, lock_text, cmp_lt, cmp_le, cmp_gt, cmp_ge, cmp_eqi, cmp_nei, cmp_eqb, cmp_neb, b_add, b_sub, bi_abs, bi_int, len_lst, len_tup, len_scr, ix_lst, ix_tup, ix_scr, at_0, at_1, at_2, at_3, isN_non, isN_int, isN_tup, isN_lst, isN_str, isN_bl, List.getElem?_cons_succ, List.getElem?_cons_zero, Option.map_some, List.set_cons_succ, List.set_cons_zero, rngD_ok (small_i h0 (by omega)), q1]
section
variable {S : Store}
theorem ev_num {w : List Nat} {x0 x1 x3 : Option D} (h0 : w ≠ []) (h : w.length ≤ 5000) : ev (.band (.cons (.cmp .le (.bi .len (.cons (.var 2) .nil)) (.int 4)) (.cons (.bor (.cons (.cmp .eq (.bi .len (.cons (.var 2) .nil)) (.int 1)) (.cons (.cmp .ne (.ix (.var 2) (.int 0)) (.str "0")) .nil))) .nil))) [x0, x1, some (.str (sl w)), x3] S = .ok (.bl (isNum w)) S := by
  cases w with
  | nil => exact absurd rfl h0
  | cons c s =>
    have ix := ix_sl (S := S) (l := c :: s) (i := 0) (c := c) (by omega) rfl
    have ix' : ixD (.str (sl (c :: s))) (.int 0) S = some (.str (sl [c])) := ix
    have e0 : (sl [c] == ("0" : Str)) = decide (c = 48) := by
      rw [show ("0" : Str) = sl [48] from rfl, sl_beq]
      simp
    unfold isNum
    by_cases h1 : (c :: s).length ≤ 4
    · by_cases h2 : (c :: s).length = 1
      · have e2 : (((c :: s).length : Int) == 1) = true := by rw [h2]; rfl
        simp only [bind_ok, fl_ok, of_some, seq_nx, seq_ret, pick_t, pick_f, getV_ok, putE_ok, putS_ok, ev_var, ev_non, ev_bl, ev_int, ev_str, ev_glob, ev_bin, ev_cmp, negD_int, ev_neg, notD_bl, ev_not, ev_band, ev_bor, pickE_t, pickE_f, and_1, and_c, or_1, or_c, ev_chain, ev_isN, ev_notN, ev_ite, ev_call, ev_bi, ev_tup, ev_new, new_f, ev_dnewK, ev_dnewT, ev_ix, ev_sl, ev_frz, evs_nil, evs_cons, evN_n, intN_int, evN_s, evO_n, evO_s, evL_disp, ev_join, joinM_s, evL_sorted, evL_sortk, evL_list, evL_keys, seq_lst, seq_tup, ex_putp, evL_cm, evI_seq, evI_rng1, evI_rng2, evI_enum, exs_nil, exs_cons, exs_frz, ex_asg, setT_n, ex_par, ex_put, ex_aug, augD_ok, ex_drop, ex_app, ex_ifs, ex_for, ex_while, ex_ret, ex_retN, ex_pass, unlock_nx, unlock_ret, lock_seq, lock_rng1, lock_rng2, lock_enum, lock_text, cmp_lt, cmp_le, cmp_gt, cmp_ge, cmp_eqi, cmp_nei, cmp_eqb, cmp_neb, b_add, b_sub, bi_abs, bi_int, len_lst, len_tup, len_scr, ix_lst, ix_tup, ix_scr, at_0, at_1, at_2, at_3, isN_non, isN_int, isN_tup, isN_lst, isN_str, isN_bl, List.getElem?_cons_succ, List.getElem?_cons_zero, Option.map_some, List.set_cons_succ, List.set_cons_zero, len_sl (show (c :: s).length ≤ 1000000 by omega), decide_eq_true (show ((c :: s).length : Int) ≤ 4 by omega), e2, decide_eq_true h1, decide_eq_true h2, Bool.true_or, Bool.and_true]
      · have e2 : (((c :: s).length : Int) == 1) = false := by simp; simp at h2; intro z; apply h2; exact List.length_eq_zero_iff.mp (by omega)
        have e3 : decide ((c :: s).head? = some 48) = decide (c = 48) := by simp
        simp only [bind_ok, fl_ok, of_some, seq_nx, seq_ret, pick_t, pick_f, getV_ok, putE_ok, putS_ok, ev_var, ev_non, ev_bl, ev_int, ev_str, ev_glob, ev_bin, ev_cmp, negD_int, ev_neg, notD_bl, ev_not, ev_band, ev_bor, pickE_t, pickE_f, and_1, and_c, or_1, or_c, ev_chain, ev_isN, ev_notN, ev_ite, ev_call, ev_bi, ev_tup, ev_new, new_f, ev_dnewK, ev_dnewT, ev_ix, ev_sl, ev_frz, evs_nil, evs_cons, evN_n, intN_int, evN_s, evO_n, evO_s, evL_disp, ev_join, joinM_s, evL_sorted, evL_sortk, evL_list, evL_keys, seq_lst, seq_tup, ex_putp, evL_cm, evI_seq, evI_rng1, evI_rng2, evI_enum, exs_nil, exs_cons, exs_frz, ex_asg, setT_n, ex_par, ex_put, ex_aug, augD_ok, ex_drop, ex_app, ex_ifs, ex_for, ex_while, ex_ret, ex_retN, ex_pass, unlock_nx, unlock_ret, lock_seq, lock_rng1, lock_rng2, lock_enum, lock_text, cmp_lt, cmp_le, cmp_gt, cmp_ge, cmp_eqi, cmp_nei, cmp_eqb, cmp_neb, b_add, b_sub, bi_abs, bi_int, len_lst, len_tup, len_scr, ix_lst, ix_tup, ix_scr, at_0, at_1, at_2, at_3, isN_non, isN_int, isN_tup, isN_lst, isN_str, isN_bl, List.getElem?_cons_succ, List.getElem?_cons_zero, Option.map_some, List.set_cons_succ, List.set_cons_zero, len_sl (show (c :: s).length ≤ 1000000 by omega), decide_eq_true (show ((c :: s).length : Int) ≤ 4 by omega), e2, ix', cmp_nes, e0, decide_eq_true h1, decide_eq_false h2, e3, Bool.false_or, Bool.true_and]
        cases decide (c = 48) <;> rfl
    · have e1 : ¬ (((c :: s).length : Nat) : Int) ≤ 4 := by omega
      simp only [bind_ok, fl_ok, of_some, seq_nx, seq_ret, pick_t, pick_f, getV_ok, putE_ok, putS_ok, ev_var, ev_non, ev_bl, ev_int, ev_str, ev_glob, ev_bin, ev_cmp, negD_int, ev_neg, notD_bl, ev_not, ev_band, ev_bor, pickE_t, pickE_f, and_1, and_c, or_1, or_c, ev_chain, ev_isN, ev_notN, ev_ite, ev_call, ev_bi, ev_tup, ev_new, new_f, ev_dnewK, ev_dnewT, ev_ix, ev_sl, ev_frz, evs_nil, evs_cons, evN_n, intN_int, evN_s, evO_n, evO_s, evL_disp, ev_join, joinM_s, evL_sorted, evL_sortk, evL_list, evL_keys, seq_lst, seq_tup, ex_putp, evL_cm, evI_seq, evI_rng1, evI_rng2, evI_enum, exs_nil, exs_cons, exs_frz, ex_asg, setT_n, ex_par, ex_put, ex_aug, augD_ok, ex_drop, ex_app, ex_ifs, ex_for, ex_while, ex_ret, ex_retN, ex_pass, unlock_nx, unlock_ret, lock_seq, lock_rng1, lock_rng2, lock_enum, lock_text, cmp_lt, cmp_le, cmp_gt, cmp_ge, cmp_eqi, cmp_nei, cmp_eqb, cmp_neb, b_add, b_sub, bi_abs, bi_int, len_lst, len_tup, len_scr, ix_lst, ix_tup, ix_scr, at_0, at_1, at_2, at_3, isN_non, isN_int, isN_tup, isN_lst, isN_str, isN_bl, List.getElem?_cons_succ, List.getElem?_cons_zero, Option.map_some, List.set_cons_succ, List.set_cons_zero, len_sl (show (c :: s).length ≤ 1000000 by omega), decide_eq_false e1, decide_eq_false h1, Bool.false_and]
end
def o33 : List Nat := [65, 66, 90, 33, 35, 36, 38, 39, 40, 41, 42, 43, 44, 46, 47, 58, 59, 60, 61, 62, 63, 64, 91, 92, 93, 94, 95, 96, 123, 124, 125, 126, 45]
theorem r_Ltoken {ds : List Int} {k : Nat} {T : Store} : ∃ tx rows k', f_Ltoken [.ptr 0] (bxC ds k :: T) = .ok (.lst (rows.map Tok.d)) (bxC ds k' :: T) ∧ Row tx rows := by
  have d1 := drw_lt (ds := ds) (k := k) (m := 5) (by decide)
  have dr1 := r_Ldraw (ds := ds) (k := k) (T := T) (show (0 : Int) < 5 by decide)
  generalize drw ds k 5 = kind at d1 dr1
  by_cases k2 : kind < 2
  · have d2 := drw_lt (ds := ds) (k := k + 1) (m := 2) (by decide)
    have dr2 := r_Ldraw (ds := ds) (k := k + 1) (T := T) (show (0 : Int) < 2 by decide)
    obtain ⟨m, em, hm⟩ : ∃ m : Int, (if drw ds (k + 1) 2 = 0 then D.int 4 else D.int 11) = .int m ∧ 0 < m ∧ m ≤ 11 := by
      split
      · exact ⟨4, rfl, by decide, by decide⟩
      · exact ⟨11, rfl, by decide, by decide⟩
    have d3 := drw_lt (ds := ds) (k := k + 1 + 1) (m := m) hm.1
    have dr3 := r_Ldraw (ds := ds) (k := k + 1 + 1) (T := T) hm.1
    obtain ⟨w, k', e, hl, hc⟩ := r_run (ds := ds) (k := k + 1 + 1 + 1) (T := T) (m := 1 + drw ds (k + 1 + 1) m) (cl := ("abcdefghijklmnopqrstuvwxyz" : Str).cps.toList) (by omega) (by omega) (by decide +kernel) (by decide +kernel)
    have e' : f_Lrun [.ptr 0, .int (1 + drw ds (k + 1 + 1) m), .str "abcdefghijklmnopqrstuvwxyz"] (bxC ds (k + 1 + 1 + 1) :: T) = .ok (.str (sl w)) (bxC ds k' :: T) := e
    have aL : ∀ c ∈ ("abcdefghijklmnopqrstuvwxyz" : Str).cps.toList, isL c = true := by decide +kernel
    have hw : w ≠ [] := fun z => by rw [z] at hl; simp at hl; omega
    refine ⟨w, _, k', ?_, row_word hw (fun c h => aL c (hc c h)) (by omega)⟩
    refine fn_same (k := 4) rfl ?_ (lt_toks _) rfl
    show exs c_Ltoken [some (.ptr 0), none, none, none] (bxC ds k :: T) = _
    unfold c_Ltoken wKind
    by_cases h8 : w.length > 8
    · rw [if_pos h8]
      simp only [bind_ok, fl_ok, of_some, seq_nx, seq_ret, pick_t, pick_f, getV_ok, putE_ok, putS_ok, ev_var, ev_non, ev_bl, ev_int, ev_str, ev_glob, ev_bin, ev_cmp, negD_int, ev_neg, notD_bl, ev_not, ev_band, ev_bor, pickE_t, pickE_f, and_1, and_c, or_1, or_c, ev_chain, ev_isN, ev_notN, ev_ite, ev_call, ev_bi, ev_tup, ev_new, new_f, ev_dnewK, ev_dnewT, ev_ix, ev_sl, ev_frz, evs_nil, evs_cons, evN_n, intN_int, evN_s, evO_n, evO_s, evL_disp, ev_join, joinM_s, evL_sorted, evL_sortk, evL_list, evL_keys, seq_lst, seq_tup, ex_putp, evL_cm, evI_seq, evI_rng1, evI_rng2, evI_enum, exs_nil, exs_cons, exs_frz, ex_asg, setT_n, ex_par, ex_put, ex_aug, augD_ok, ex_drop, ex_app, ex_ifs, ex_for, ex_while, ex_ret, ex_retN, ex_pass, unlock_nx, unlock_ret, lock_seq, lock_rng1, lock_rng2, lock_enum, lock_text, cmp_lt, cmp_le, cmp_gt, cmp_ge, cmp_eqi, cmp_nei, cmp_eqb, cmp_neb, b_add, b_sub, bi_abs, bi_int, len_lst, len_tup, len_scr, ix_lst, ix_tup, ix_scr, at_0, at_1, at_2, at_3, isN_non, isN_int, isN_tup, isN_lst, isN_str, isN_bl, List.getElem?_cons_succ, List.getElem?_cons_zero, Option.map_some, List.set_cons_succ, List.set_cons_zero, dr1, decide_eq_true k2, ix_lst, dr2, at_two d2.1 d2.2, em, dr3, e', len_sl (show w.length ≤ 1000000 by omega), decide_eq_true (show (8 : Int) < (w.length : Int) by omega), bi_intb, at_bool, if_true]
      rfl
    · rw [if_neg h8]
      simp only [bind_ok, fl_ok, of_some, seq_nx, seq_ret, pick_t, pick_f, getV_ok, putE_ok, putS_ok, ev_var, ev_non, ev_bl, ev_int, ev_str, ev_glob, ev_bin, ev_cmp, negD_int, ev_neg, notD_bl, ev_not, ev_band, ev_bor, pickE_t, pickE_f, and_1, and_c, or_1, or_c, ev_chain, ev_isN, ev_notN, ev_ite, ev_call, ev_bi, ev_tup, ev_new, new_f, ev_dnewK, ev_dnewT, ev_ix, ev_sl, ev_frz, evs_nil, evs_cons, evN_n, intN_int, evN_s, evO_n, evO_s, evL_disp, ev_join, joinM_s, evL_sorted, evL_sortk, evL_list, evL_keys, seq_lst, seq_tup, ex_putp, evL_cm, evI_seq, evI_rng1, evI_rng2, evI_enum, exs_nil, exs_cons, exs_frz, ex_asg, setT_n, ex_par, ex_put, ex_aug, augD_ok, ex_drop, ex_app, ex_ifs, ex_for, ex_while, ex_ret, ex_retN, ex_pass, unlock_nx, unlock_ret, lock_seq, lock_rng1, lock_rng2, lock_enum, lock_text, cmp_lt, cmp_le, cmp_gt, cmp_ge, cmp_eqi, cmp_nei, cmp_eqb, cmp_neb, b_add, b_sub, bi_abs, bi_int, len_lst, len_tup, len_scr, ix_lst, ix_tup, ix_scr, at_0, at_1, at_2, at_3, isN_non, isN_int, isN_tup, isN_lst, isN_str, isN_bl, List.getElem?_cons_succ, List.getElem?_cons_zero, Option.map_some, List.set_cons_succ, List.set_cons_zero, dr1, decide_eq_true k2, ix_lst, dr2, at_two d2.1 d2.2, em, dr3, e', len_sl (show w.length ≤ 1000000 by omega), decide_eq_false (show ¬ (8 : Int) < (w.length : Int) by omega), bi_intb, at_bool, Bool.false_eq_true, if_false]
      rfl
  · by_cases k4 : kind < 4
    · have d2 := drw_lt (ds := ds) (k := k + 1) (m := 6) (by decide)
      have dr2 := r_Ldraw (ds := ds) (k := k + 1) (T := T) (show (0 : Int) < 6 by decide)
      obtain ⟨w, k', e, hl, hc⟩ := r_run (ds := ds) (k := k + 1 + 1) (T := T) (m := 1 + drw ds (k + 1) 6) (cl := ("0123456789" : Str).cps.toList) (by omega) (by omega) (by decide +kernel) (by decide +kernel)
      have e' : f_Lrun [.ptr 0, .int (1 + drw ds (k + 1) 6), .str "0123456789"] (bxC ds (k + 1 + 1) :: T) = .ok (.str (sl w)) (bxC ds k' :: T) := e
      have aD : ∀ c ∈ ("0123456789" : Str).cps.toList, isD c = true := by decide +kernel
      have hD : ∀ c ∈ w, isD c = true := fun c h => aD c (hc c h)
      have hw : w ≠ [] := fun z => by rw [z] at hl; simp at hl; omega
      have en := fun {x0 x1 x3 : Option D} => ev_num (S := bxC ds k' :: T) (x0 := x0) (x1 := x1) (x3 := x3) hw (show w.length ≤ 5000 by omega)
      by_cases k3 : kind = 3
      · have k3' : (kind == 3) = true := by simpa using k3
        have n1 : (sl w == ("0" : Str)) = decide (w = [48]) := by
          rw [show ("0" : Str) = sl [48] from rfl, sl_beq]
        by_cases hn : isNum w = true ∧ w ≠ [48]
        · have ad := add_sl (S := bxC ds k' :: T) (a := [45]) (b := w) (by simp; omega)
          have ad' : binD .add (.str "-") (.str (sl w)) (bxC ds k' :: T) = some (.str (sl (45 :: w))) := ad
          refine ⟨45 :: w, _, k', ?_, row_neg hw hD (by omega) hn.1 hn.2⟩
          refine fn_same (k := 4) rfl ?_ (lt_toks _) rfl
          show exs c_Ltoken [some (.ptr 0), none, none, none] (bxC ds k :: T) = _
          unfold c_Ltoken
          simp only [↓en, bind_ok, fl_ok, of_some, seq_nx, seq_ret, pick_t, pick_f, getV_ok, putE_ok, putS_ok, ev_var, ev_non, ev_bl, ev_int, ev_str, ev_glob, ev_bin, ev_cmp, negD_int, ev_neg, notD_bl, ev_not, ev_band, ev_bor, pickE_t, pickE_f, and_1, and_c, or_1, or_c, ev_chain, ev_isN, ev_notN, ev_ite, ev_call, ev_bi, ev_tup, ev_new, new_f, ev_dnewK, ev_dnewT, ev_ix, ev_sl, ev_frz, evs_nil, evs_cons, evN_n, intN_int, evN_s, evO_n, evO_s, evL_disp, ev_join, joinM_s, evL_sorted, evL_sortk, evL_list, evL_keys, seq_lst, seq_tup, ex_putp, evL_cm, evI_seq, evI_rng1, evI_rng2, evI_enum, exs_nil, exs_cons, exs_frz, ex_asg, setT_n, ex_par, ex_put, ex_aug, augD_ok, ex_drop, ex_app, ex_ifs, ex_for, ex_while, ex_ret, ex_retN, ex_pass, unlock_nx, unlock_ret, lock_seq, lock_rng1, lock_rng2, lock_enum, lock_text, cmp_lt, cmp_le, cmp_gt, cmp_ge, cmp_eqi, cmp_nei, cmp_eqb, cmp_neb, b_add, b_sub, bi_abs, bi_int, len_lst, len_tup, len_scr, ix_lst, ix_tup, ix_scr, at_0, at_1, at_2, at_3, isN_non, isN_int, isN_tup, isN_lst, isN_str, isN_bl, List.getElem?_cons_succ, List.getElem?_cons_zero, Option.map_some, List.set_cons_succ, List.set_cons_zero, dr1, decide_eq_false k2, decide_eq_true k4, dr2, e', k3', hn.1, cmp_nes, n1, decide_eq_false hn.2, Bool.not_false, ad']
          rfl
        · refine ⟨45 :: w, _, k', ?_, row_dash hw hD (by omega) ?_⟩
          · refine fn_same (k := 4) rfl ?_ (lt_toks _) rfl
            show exs c_Ltoken [some (.ptr 0), none, none, none] (bxC ds k :: T) = _
            unfold c_Ltoken nKind
            cases hN : isNum w with
            | true =>
              have h48 : w = [48] := by
                by_cases z : w = [48]
                · exact z
                · exact absurd ⟨hN, z⟩ hn
              simp only [↓en, bind_ok, fl_ok, of_some, seq_nx, seq_ret, pick_t, pick_f, getV_ok, putE_ok, putS_ok, ev_var, ev_non, ev_bl, ev_int, ev_str, ev_glob, ev_bin, ev_cmp, negD_int, ev_neg, notD_bl, ev_not, ev_band, ev_bor, pickE_t, pickE_f, and_1, and_c, or_1, or_c, ev_chain, ev_isN, ev_notN, ev_ite, ev_call, ev_bi, ev_tup, ev_new, new_f, ev_dnewK, ev_dnewT, ev_ix, ev_sl, ev_frz, evs_nil, evs_cons, evN_n, intN_int, evN_s, evO_n, evO_s, evL_disp, ev_join, joinM_s, evL_sorted, evL_sortk, evL_list, evL_keys, seq_lst, seq_tup, ex_putp, evL_cm, evI_seq, evI_rng1, evI_rng2, evI_enum, exs_nil, exs_cons, exs_frz, ex_asg, setT_n, ex_par, ex_put, ex_aug, augD_ok, ex_drop, ex_app, ex_ifs, ex_for, ex_while, ex_ret, ex_retN, ex_pass, unlock_nx, unlock_ret, lock_seq, lock_rng1, lock_rng2, lock_enum, lock_text, cmp_lt, cmp_le, cmp_gt, cmp_ge, cmp_eqi, cmp_nei, cmp_eqb, cmp_neb, b_add, b_sub, bi_abs, bi_int, len_lst, len_tup, len_scr, ix_lst, ix_tup, ix_scr, at_0, at_1, at_2, at_3, isN_non, isN_int, isN_tup, isN_lst, isN_str, isN_bl, List.getElem?_cons_succ, List.getElem?_cons_zero, Option.map_some, List.set_cons_succ, List.set_cons_zero, dr1, decide_eq_false k2, decide_eq_true k4, dr2, e', k3', hN, cmp_nes, n1, decide_eq_true h48, Bool.not_true, ix_lst, bi_intb, at_bool, if_true]
              rfl
            | false =>
              simp only [↓en, bind_ok, fl_ok, of_some, seq_nx, seq_ret, pick_t, pick_f, getV_ok, putE_ok, putS_ok, ev_var, ev_non, ev_bl, ev_int, ev_str, ev_glob, ev_bin, ev_cmp, negD_int, ev_neg, notD_bl, ev_not, ev_band, ev_bor, pickE_t, pickE_f, and_1, and_c, or_1, or_c, ev_chain, ev_isN, ev_notN, ev_ite, ev_call, ev_bi, ev_tup, ev_new, new_f, ev_dnewK, ev_dnewT, ev_ix, ev_sl, ev_frz, evs_nil, evs_cons, evN_n, intN_int, evN_s, evO_n, evO_s, evL_disp, ev_join, joinM_s, evL_sorted, evL_sortk, evL_list, evL_keys, seq_lst, seq_tup, ex_putp, evL_cm, evI_seq, evI_rng1, evI_rng2, evI_enum, exs_nil, exs_cons, exs_frz, ex_asg, setT_n, ex_par, ex_put, ex_aug, augD_ok, ex_drop, ex_app, ex_ifs, ex_for, ex_while, ex_ret, ex_retN, ex_pass, unlock_nx, unlock_ret, lock_seq, lock_rng1, lock_rng2, lock_enum, lock_text, cmp_lt, cmp_le, cmp_gt, cmp_ge, cmp_eqi, cmp_nei, cmp_eqb, cmp_neb, b_add, b_sub, bi_abs, bi_int, len_lst, len_tup, len_scr, ix_lst, ix_tup, ix_scr, at_0, at_1, at_2, at_3, isN_non, isN_int, isN_tup, isN_lst, isN_str, isN_bl, List.getElem?_cons_succ, List.getElem?_cons_zero, Option.map_some, List.set_cons_succ, List.set_cons_zero, dr1, decide_eq_false k2, decide_eq_true k4, dr2, e', k3', hN, ix_lst, bi_intb, at_bool, Bool.false_eq_true, if_false]
              rfl
          · cases hN : isNum w with
            | true => exact .inr (by
                by_cases z : w = [48]
                · exact z
                · exact absurd ⟨hN, z⟩ hn)
            | false => exact .inl rfl
      · have k3' : (kind == 3) = false := by simpa using k3
        refine ⟨w, _, k', ?_, row_num hw hD (by omega)⟩
        refine fn_same (k := 4) rfl ?_ (lt_toks _) rfl
        show exs c_Ltoken [some (.ptr 0), none, none, none] (bxC ds k :: T) = _
        unfold c_Ltoken nKind
        cases hN : isNum w with
        | true =>
          simp only [↓en, bind_ok, fl_ok, of_some, seq_nx, seq_ret, pick_t, pick_f, getV_ok, putE_ok, putS_ok, ev_var, ev_non, ev_bl, ev_int, ev_str, ev_glob, ev_bin, ev_cmp, negD_int, ev_neg, notD_bl, ev_not, ev_band, ev_bor, pickE_t, pickE_f, and_1, and_c, or_1, or_c, ev_chain, ev_isN, ev_notN, ev_ite, ev_call, ev_bi, ev_tup, ev_new, new_f, ev_dnewK, ev_dnewT, ev_ix, ev_sl, ev_frz, evs_nil, evs_cons, evN_n, intN_int, evN_s, evO_n, evO_s, evL_disp, ev_join, joinM_s, evL_sorted, evL_sortk, evL_list, evL_keys, seq_lst, seq_tup, ex_putp, evL_cm, evI_seq, evI_rng1, evI_rng2, evI_enum, exs_nil, exs_cons, exs_frz, ex_asg, setT_n, ex_par, ex_put, ex_aug, augD_ok, ex_drop, ex_app, ex_ifs, ex_for, ex_while, ex_ret, ex_retN, ex_pass, unlock_nx, unlock_ret, lock_seq, lock_rng1, lock_rng2, lock_enum, lock_text, cmp_lt, cmp_le, cmp_gt, cmp_ge, cmp_eqi, cmp_nei, cmp_eqb, cmp_neb, b_add, b_sub, bi_abs, bi_int, len_lst, len_tup, len_scr, ix_lst, ix_tup, ix_scr, at_0, at_1, at_2, at_3, isN_non, isN_int, isN_tup, isN_lst, isN_str, isN_bl, List.getElem?_cons_succ, List.getElem?_cons_zero, Option.map_some, List.set_cons_succ, List.set_cons_zero, dr1, decide_eq_false k2, decide_eq_true k4, dr2, e', k3', hN, ix_lst, bi_intb, at_bool, if_true]
          rfl
        | false =>
          simp only [↓en, bind_ok, fl_ok, of_some, seq_nx, seq_ret, pick_t, pick_f, getV_ok, putE_ok, putS_ok, ev_var, ev_non, ev_bl, ev_int, ev_str, ev_glob, ev_bin, ev_cmp, negD_int, ev_neg, notD_bl, ev_not, ev_band, ev_bor, pickE_t, pickE_f, and_1, and_c, or_1, or_c, ev_chain, ev_isN, ev_notN, ev_ite, ev_call, ev_bi, ev_tup, ev_new, new_f, ev_dnewK, ev_dnewT, ev_ix, ev_sl, ev_frz, evs_nil, evs_cons, evN_n, intN_int, evN_s, evO_n, evO_s, evL_disp, ev_join, joinM_s, evL_sorted, evL_sortk, evL_list, evL_keys, seq_lst, seq_tup, ex_putp, evL_cm, evI_seq, evI_rng1, evI_rng2, evI_enum, exs_nil, exs_cons, exs_frz, ex_asg, setT_n, ex_par, ex_put, ex_aug, augD_ok, ex_drop, ex_app, ex_ifs, ex_for, ex_while, ex_ret, ex_retN, ex_pass, unlock_nx, unlock_ret, lock_seq, lock_rng1, lock_rng2, lock_enum, lock_text, cmp_lt, cmp_le, cmp_gt, cmp_ge, cmp_eqi, cmp_nei, cmp_eqb, cmp_neb, b_add, b_sub, bi_abs, bi_int, len_lst, len_tup, len_scr, ix_lst, ix_tup, ix_scr, at_0, at_1, at_2, at_3, isN_non, isN_int, isN_tup, isN_lst, isN_str, isN_bl, List.getElem?_cons_succ, List.getElem?_cons_zero, Option.map_some, List.set_cons_succ, List.set_cons_zero, dr1, decide_eq_false k2, decide_eq_true k4, dr2, e', k3', hN, ix_lst, bi_intb, at_bool, Bool.false_eq_true, if_false]
          rfl
    · have d2 := drw_lt (ds := ds) (k := k + 1) (m := 33) (by decide)
      have dr2 := r_Ldraw (ds := ds) (k := k + 1) (T := T) (show (0 : Int) < 33 by decide)
      obtain ⟨n, hn⟩ : ∃ n : Nat, drw ds (k + 1) 33 = (n : Int) := ⟨_, (Int.toNat_of_nonneg d2.1).symm⟩
      rw [hn] at dr2
      have hn2 : n < o33.length := by show n < 33; omega
      have ec := ix_sl (S := bxC ds (k + 1 + 1) :: T) (l := o33) (i := n) (c := o33[n]) (by decide) (List.getElem?_eq_getElem hn2)
      have ec' : ixD (.str (⟨#[65, 66, 90, 33, 35, 36, 38, 39, 40, 41, 42, 43, 44, 46, 47, 58, 59, 60, 61, 62, 63, 64, 91, 92, 93, 94, 95, 96, 123, 124, 125, 126, 45]⟩ : Str)) (.int (n : Int)) (bxC ds (k + 1 + 1) :: T) = some (.str (sl [o33[n]])) := ec
      have pr : ∀ c ∈ o33, isL c = false ∧ isD c = false ∧ c ≠ 32 ∧ c < 128 := by decide
      have p := pr _ (List.getElem_mem hn2)
      refine ⟨[o33[n]], _, k + 1 + 1, ?_, row_other p.1 p.2.1 p.2.2.1 p.2.2.2⟩
      refine fn_same (k := 4) rfl ?_ (lt_toks _) rfl
      show exs c_Ltoken [some (.ptr 0), none, none, none] (bxC ds k :: T) = _
      unfold c_Ltoken
      simp only [bind_ok, fl_ok, of_some, seq_nx, seq_ret, pick_t, pick_f, getV_ok, putE_ok, putS_ok, ev_var, ev_non, ev_bl, ev_int, ev_str, ev_glob, ev_bin, ev_cmp, negD_int, ev_neg, notD_bl, ev_not, ev_band, ev_bor, pickE_t, pickE_f, and_1, and_c, or_1, or_c, ev_chain, ev_isN, ev_notN, ev_ite, ev_call, ev_bi, ev_tup, ev_new, new_f, ev_dnewK, ev_dnewT, ev_ix, ev_sl, ev_frz, evs_nil, evs_cons, evN_n, intN_int, evN_s, evO_n, evO_s, evL_disp, ev_join, joinM_s, evL_sorted, evL_sortk, evL_list, evL_keys, seq_lst, seq_tup, ex_putp, evL_cm, evI_seq, evI_rng1, evI_rng2, evI_enum, exs_nil, exs_cons, exs_frz, ex_asg, setT_n, ex_par, ex_put, ex_aug, augD_ok, ex_drop, ex_app, ex_ifs, ex_for, ex_while, ex_ret, ex_retN, ex_pass, unlock_nx, unlock_ret, lock_seq, lock_rng1, lock_rng2, lock_enum, lock_text, cmp_lt, cmp_le, cmp_gt, cmp_ge, cmp_eqi, cmp_nei, cmp_eqb, cmp_neb, b_add, b_sub, bi_abs, bi_int, len_lst, len_tup, len_scr, ix_lst, ix_tup, ix_scr, at_0, at_1, at_2, at_3, isN_non, isN_int, isN_tup, isN_lst, isN_str, isN_bl, List.getElem?_cons_succ, List.getElem?_cons_zero, Option.map_some, List.set_cons_succ, List.set_cons_zero, dr1, decide_eq_false k2, decide_eq_false k4, dr2, ec']
      rfl
end MI.K
set_option exponentiation.threshold 5000
namespace MI.K
open PySem PySem.Spec L2
theorem iter_l {l : List D} : iterD (.lst l) = some l := rfl
def cls (c : Nat) : Int := if isD c then 1 else if isL c then 2 else 0
section
variable {S : Store}
theorem bi_max {i j : Int} : biD .max2 [.int i, .int j] S = some (.int (if j > i then j else i)) := (rfl)
theorem r_Lfirst {c : Nat} {s : List Nat} (hc : c < 128) (h : s.length ≤ 5000) : f_Lfirst [.str (sl (c :: s))] S = .ok (.int (cls c)) S := by
  have ix := ix_sl (S := S) (l := c :: s) (i := 0) (c := c) (by rw [List.length_cons]; omega) rfl
  have ix' : ixD (.str (sl (c :: s))) (.int 0) S = some (.str (sl [c])) := ix
  have iL : strIn (sl [c]) "abcdefghijklmnopqrstuvwxyz" = isL c := inL c hc
  have iD : strIn (sl [c]) "0123456789" = isD c := inD c hc
  refine fn_same (k := 1) (S' := S) rfl ?_ rfl rfl
  show exs c_Lfirst [some (.str (sl (c :: s)))] S = _
  unfold c_Lfirst cls
  cases hD : isD c with
  | true =>
    rw [hD] at iD
    simp only [bind_ok, fl_ok, of_some, seq_nx, seq_ret, pick_t, pick_f, getV_ok, putE_ok, putS_ok, ev_var, ev_non, ev_bl, ev_int, ev_str, ev_glob, ev_bin, ev_cmp, negD_int, ev_neg, notD_bl, ev_not, ev_band, ev_bor, pickE_t, pickE_f, and_1, and_c, or_1, or_c, ev_chain, ev_isN, ev_notN, ev_ite, ev_call, ev_bi, ev_tup, ev_new, new_f, ev_dnewK, ev_dnewT, ev_ix, ev_sl, ev_frz, evs_nil, evs_cons, evN_n, intN_int, evN_s, evO_n, evO_s, evL_disp, ev_join, joinM_s, evL_sorted, evL_sortk, evL_list, evL_keys, seq_lst, seq_tup, ex_putp, evL_cm, evI_seq, evI_rng1, evI_rng2, evI_enum, exs_nil, exs_cons, exs_frz, ex_asg, setT_n, ex_par, ex_put, ex_aug, augD_ok, ex_drop, ex_app, ex_ifs, ex_for, ex_while, ex_ret, ex_retN, ex_pass, unlock_nx, unlock_ret, lock_seq, lock_rng1, lock_rng2, lock_enum, lock_text, cmp_lt, cmp_le, cmp_gt, cmp_ge, cmp_eqi, cmp_nei, cmp_eqb, cmp_neb, b_add, b_sub, bi_abs, bi_int, len_lst, len_tup, len_scr, ix_lst, ix_tup, ix_scr, at_0, at_1, at_2, at_3, isN_non, isN_int, isN_tup, isN_lst, isN_str, isN_bl, List.getElem?_cons_succ, List.getElem?_cons_zero, Option.map_some, List.set_cons_succ, List.set_cons_zero, ix', cmp_in, iD, if_true]
  | false =>
    rw [hD] at iD
    cases hL : isL c with
    | true =>
      rw [hL] at iL
      simp only [bind_ok, fl_ok, of_some, seq_nx, seq_ret, pick_t, pick_f, getV_ok, putE_ok, putS_ok, ev_var, ev_non, ev_bl, ev_int, ev_str, ev_glob, ev_bin, ev_cmp, negD_int, ev_neg, notD_bl, ev_not, ev_band, ev_bor, pickE_t, pickE_f, and_1, and_c, or_1, or_c, ev_chain, ev_isN, ev_notN, ev_ite, ev_call, ev_bi, ev_tup, ev_new, new_f, ev_dnewK, ev_dnewT, ev_ix, ev_sl, ev_frz, evs_nil, evs_cons, evN_n, intN_int, evN_s, evO_n, evO_s, evL_disp, ev_join, joinM_s, evL_sorted, evL_sortk, evL_list, evL_keys, seq_lst, seq_tup, ex_putp, evL_cm, evI_seq, evI_rng1, evI_rng2, evI_enum, exs_nil, exs_cons, exs_frz, ex_asg, setT_n, ex_par, ex_put, ex_aug, augD_ok, ex_drop, ex_app, ex_ifs, ex_for, ex_while, ex_ret, ex_retN, ex_pass, unlock_nx, unlock_ret, lock_seq, lock_rng1, lock_rng2, lock_enum, lock_text, cmp_lt, cmp_le, cmp_gt, cmp_ge, cmp_eqi, cmp_nei, cmp_eqb, cmp_neb, b_add, b_sub, bi_abs, bi_int, len_lst, len_tup, len_scr, ix_lst, ix_tup, ix_scr, at_0, at_1, at_2, at_3, isN_non, isN_int, isN_tup, isN_lst, isN_str, isN_bl, List.getElem?_cons_succ, List.getElem?_cons_zero, Option.map_some, List.set_cons_succ, List.set_cons_zero, ix', cmp_in, iD, iL, bi_intb, if_true, b_mul (mul_okl (show (2 : Int).natAbs < 18446744073709551616 by decide)), Bool.false_eq_true, if_false]
      rfl
    | false =>
      rw [hL] at iL
      simp only [bind_ok, fl_ok, of_some, seq_nx, seq_ret, pick_t, pick_f, getV_ok, putE_ok, putS_ok, ev_var, ev_non, ev_bl, ev_int, ev_str, ev_glob, ev_bin, ev_cmp, negD_int, ev_neg, notD_bl, ev_not, ev_band, ev_bor, pickE_t, pickE_f, and_1, and_c, or_1, or_c, ev_chain, ev_isN, ev_notN, ev_ite, ev_call, ev_bi, ev_tup, ev_new, new_f, ev_dnewK, ev_dnewT, ev_ix, ev_sl, ev_frz, evs_nil, evs_cons, evN_n, intN_int, evN_s, evO_n, evO_s, evL_disp, ev_join, joinM_s, evL_sorted, evL_sortk, evL_list, evL_keys, seq_lst, seq_tup, ex_putp, evL_cm, evI_seq, evI_rng1, evI_rng2, evI_enum, exs_nil, exs_cons, exs_frz, ex_asg, setT_n, ex_par, ex_put, ex_aug, augD_ok, ex_drop, ex_app, ex_ifs, ex_for, ex_while, ex_ret, ex_retN, ex_pass, unlock_nx, unlock_ret, lock_seq, lock_rng1, lock_rng2, lock_enum, lock_text, cmp_lt, cmp_le, cmp_gt, cmp_ge, cmp_eqi, cmp_nei, cmp_eqb, cmp_neb, b_add, b_sub, bi_abs, bi_int, len_lst, len_tup, len_scr, ix_lst, ix_tup, ix_scr, at_0, at_1, at_2, at_3, isN_non, isN_int, isN_tup, isN_lst, isN_str, isN_bl, List.getElem?_cons_succ, List.getElem?_cons_zero, Option.map_some, List.set_cons_succ, List.set_cons_zero, ix', cmp_in, iD, iL, bi_intb, b_mul (mul_okl (show (2 : Int).natAbs < 18446744073709551616 by decide)), Bool.false_eq_true, if_false]
      rfl
theorem ix_lastc {c : Nat} {s : List Nat} (h : s.length ≤ 5000) : ixD (.str (sl (s ++ [c]))) (.int (-1)) S = some (.str (sl [c])) := by
  show (if (sl (s ++ [c])).length ≤ 1000000 then (atI (sl (s ++ [c])).cps.toList (-1)).map fun c => D.str ⟨#[c]⟩ else none) = _
  have ll : (s ++ [c]).length = s.length + 1 := by simp
  rw [sl_len, if_pos (by omega)]
  have e : (sl (s ++ [c])).cps.toList = s ++ [c] := by simp [sl]
  rw [e]
  have ei : ixN (s ++ [c]).length (-1) = some s.length := by
    unfold ixN
    rw [if_neg (by decide), ll, if_pos (by omega)]
    congr 1
    omega
  unfold atI
  rw [ei]
  show ((s ++ [c])[s.length]?).map _ = _
  simp
  rfl
theorem r_Lsort {c : Nat} {s : List Nat} (hc : c < 128) (h : s.length ≤ 5000) : f_Lsort [.str (sl (s ++ [c]))] S = .ok (.int (cls c)) S := by
  have ix' := ix_lastc (S := S) (c := c) h
  have iL : strIn (sl [c]) "abcdefghijklmnopqrstuvwxyz" = isL c := inL c hc
  have iD : strIn (sl [c]) "0123456789" = isD c := inD c hc
  have ng : (-(1 : Int)) = -1 := rfl
  refine fn_same (k := 1) (S' := S) rfl ?_ rfl rfl
  show exs c_Lsort [some (.str (sl (s ++ [c])))] S = _
  unfold c_Lsort cls
  cases hD : isD c with
  | true =>
    rw [hD] at iD
    simp only [bind_ok, fl_ok, of_some, seq_nx, seq_ret, pick_t, pick_f, getV_ok, putE_ok, putS_ok, ev_var, ev_non, ev_bl, ev_int, ev_str, ev_glob, ev_bin, ev_cmp, negD_int, ev_neg, notD_bl, ev_not, ev_band, ev_bor, pickE_t, pickE_f, and_1, and_c, or_1, or_c, ev_chain, ev_isN, ev_notN, ev_ite, ev_call, ev_bi, ev_tup, ev_new, new_f, ev_dnewK, ev_dnewT, ev_ix, ev_sl, ev_frz, evs_nil, evs_cons, evN_n, intN_int, evN_s, evO_n, evO_s, evL_disp, ev_join, joinM_s, evL_sorted, evL_sortk, evL_list, evL_keys, seq_lst, seq_tup, ex_putp, evL_cm, evI_seq, evI_rng1, evI_rng2, evI_enum, exs_nil, exs_cons, exs_frz, ex_asg, setT_n, ex_par, ex_put, ex_aug, augD_ok, ex_drop, ex_app, ex_ifs, ex_for, ex_while, ex_ret, ex_retN, ex_pass, unlock_nx, unlock_ret, lock_seq, lock_rng1, lock_rng2, lock_enum, lock_text, cmp_lt, cmp_le, cmp_gt, cmp_ge, cmp_eqi, cmp_nei, cmp_eqb, cmp_neb, b_add, b_sub, bi_abs, bi_int, len_lst, len_tup, len_scr, ix_lst, ix_tup, ix_scr, at_0, at_1, at_2, at_3, isN_non, isN_int, isN_tup, isN_lst, isN_str, isN_bl, List.getElem?_cons_succ, List.getElem?_cons_zero, Option.map_some, List.set_cons_succ, List.set_cons_zero, ix', cmp_in, iD, if_true]
  | false =>
    rw [hD] at iD
    cases hL : isL c with
    | true =>
      rw [hL] at iL
      simp only [bind_ok, fl_ok, of_some, seq_nx, seq_ret, pick_t, pick_f, getV_ok, putE_ok, putS_ok, ev_var, ev_non, ev_bl, ev_int, ev_str, ev_glob, ev_bin, ev_cmp, negD_int, ev_neg, notD_bl, ev_not, ev_band, ev_bor, pickE_t, pickE_f, and_1, and_c, or_1, or_c, ev_chain, ev_isN, ev_notN, ev_ite, ev_call, ev_bi, ev_tup, ev_new, new_f, ev_dnewK, ev_dnewT, ev_ix, ev_sl, ev_frz, evs_nil, evs_cons, evN_n, intN_int, evN_s, evO_n, evO_s, evL_disp, ev_join, joinM_s, evL_sorted, evL_sortk, evL_list, evL_keys, seq_lst, seq_tup, ex_putp, evL_cm, evI_seq, evI_rng1, evI_rng2, evI_enum, exs_nil, exs_cons, exs_frz, ex_asg, setT_n, ex_par, ex_put, ex_aug, augD_ok, ex_drop, ex_app, ex_ifs, ex_for, ex_while, ex_ret, ex_retN, ex_pass, unlock_nx, unlock_ret, lock_seq, lock_rng1, lock_rng2, lock_enum, lock_text, cmp_lt, cmp_le, cmp_gt, cmp_ge, cmp_eqi, cmp_nei, cmp_eqb, cmp_neb, b_add, b_sub, bi_abs, bi_int, len_lst, len_tup, len_scr, ix_lst, ix_tup, ix_scr, at_0, at_1, at_2, at_3, isN_non, isN_int, isN_tup, isN_lst, isN_str, isN_bl, List.getElem?_cons_succ, List.getElem?_cons_zero, Option.map_some, List.set_cons_succ, List.set_cons_zero, ix', cmp_in, iD, iL, bi_intb, if_true, b_mul (mul_okl (show (2 : Int).natAbs < 18446744073709551616 by decide)), Bool.false_eq_true, if_false]
      rfl
    | false =>
      rw [hL] at iL
      simp only [bind_ok, fl_ok, of_some, seq_nx, seq_ret, pick_t, pick_f, getV_ok, putE_ok, putS_ok, ev_var, ev_non, ev_bl, ev_int, ev_str, ev_glob, ev_bin, ev_cmp, negD_int, ev_neg, notD_bl, ev_not, ev_band, ev_bor, pickE_t, pickE_f, and_1, and_c, or_1, or_c, ev_chain, ev_isN, ev_notN, ev_ite, ev_call, ev_bi, ev_tup, ev_new, new_f, ev_dnewK, ev_dnewT, ev_ix, ev_sl, ev_frz, evs_nil, evs_cons, evN_n, intN_int, evN_s, evO_n, evO_s, evL_disp, ev_join, joinM_s, evL_sorted, evL_sortk, evL_list, evL_keys, seq_lst, seq_tup, ex_putp, evL_cm, evI_seq, evI_rng1, evI_rng2, evI_enum, exs_nil, exs_cons, exs_frz, ex_asg, setT_n, ex_par, ex_put, ex_aug, augD_ok, ex_drop, ex_app, ex_ifs, ex_for, ex_while, ex_ret, ex_retN, ex_pass, unlock_nx, unlock_ret, lock_seq, lock_rng1, lock_rng2, lock_enum, lock_text, cmp_lt, cmp_le, cmp_gt, cmp_ge, cmp_eqi, cmp_nei, cmp_eqb, cmp_neb, b_add, b_sub, bi_abs, bi_int, len_lst, len_tup, len_scr, ix_lst, ix_tup, ix_scr, at_0, at_1, at_2, at_3, isN_non, isN_int, isN_tup, isN_lst, isN_str, isN_bl, List.getElem?_cons_succ, List.getElem?_cons_zero, Option.map_some, List.set_cons_succ, List.set_cons_zero, ix', cmp_in, iD, iL, bi_intb, b_mul (mul_okl (show (2 : Int).natAbs < 18446744073709551616 by decide)), Bool.false_eq_true, if_false]
      rfl
theorem spc {n : Nat} (h : n ≤ 2) : Txt.mul " " (n : Int) = sl (List.replicate n 32) := by
  have : n = 0 ∨ n = 1 ∨ n = 2 := by omega
  rcases this with e | e | e <;> subst e <;> decide +kernel
theorem mul_sp {n : Nat} (h : n ≤ 2) : binD .mul (.str " ") (.int (n : Int)) S = some (.str (sl (List.replicate n 32))) := by
  rw [b_mulS (show (" " : Str).length ≤ 1000 ∧ -1000 ≤ (n : Int) ∧ (n : Int) ≤ 1000 from ⟨by decide +kernel, by omega, by omega⟩), spc h]
theorem at_six {r : Int} (h0 : 0 ≤ r) (h1 : r < 6) : ∃ n : Nat, atI [D.int 0, .int 0, .int 0, .int 1, .int 1, .int 2] r = some (.int (n : Int)) ∧ n ≤ 2 := by
  have : r = 0 ∨ r = 1 ∨ r = 2 ∨ r = 3 ∨ r = 4 ∨ r = 5 := by omega
  rcases this with e | e | e | e | e | e <;> subst e
  · exact ⟨0, at_0, by decide⟩
  · exact ⟨0, at_1, by decide⟩
  · exact ⟨0, at_2, by decide⟩
  · exact ⟨1, at_3, by decide⟩
  · exact ⟨1, atI_nat (j := 4) rfl, by decide⟩
  · exact ⟨2, atI_nat (j := 5) rfl, by decide⟩
theorem at_lst {l : List D} {d : D} : atI (l ++ [d]) (-1) = some d := by
  have e : ixN (l ++ [d]).length (-1) = some l.length := by
    unfold ixN
    rw [if_neg (by decide), List.length_append]
    simp only [List.length_cons, List.length_nil]
    rw [if_pos (by omega)]
    congr 1
    omega
  unfold atI
  rw [e]
  show (l ++ [d])[l.length]? = _
  simp
end
/-- what is put together so far -/
structure Put (T : List Nat) (due : List Tok) : Prop where
  asc : ∀ c ∈ T, c < 128
  ne : ∀ t ∈ due, t.t ≠ [] ∧ t.t.length ≤ 20 ∧ ∀ c ∈ t.t, c < 128
  go : ∀ (rest : List Nat) (ts : List Tok), (∀ t, due.getLast? = some t → Okc t.t rest) → Toks rest ts → Toks (T ++ rest) (due ++ ts)
theorem toks_sp {rest : List Nat} {ts : List Tok} (h : Toks rest ts) : ∀ n : Nat, Toks (List.replicate n 32 ++ rest) ts
  | 0 => h
  | n + 1 => by rw [List.replicate_succ]; exact .sp (toks_sp h n)
theorem put_start (n : Nat) : Put (List.replicate n 32) [] :=
  ⟨fun c h => by rw [(List.mem_replicate.mp h).2]; decide, fun t h => (List.not_mem_nil h).elim, fun rest ts _ h => toks_sp h n⟩
/-- what the law's own test says -/
def Apart (t : List Nat) (c : Nat) : Prop := (∀ d, t.getLast? = some d → (isL d = true → isL c = false) ∧ (isD d = true → isD c = false)) ∧ (t = [45] → isD c = false)
theorem put_more {T tx : List Nat} {due rows : List Tok} {n : Nat} (h : Put T due) (r : Row tx rows) (ap : n = 0 → ∀ t, due.getLast? = some t → ∀ c, tx.head? = some c → Apart t.t c) : Put (T ++ List.replicate n 32 ++ tx) (due ++ rows) := by
  refine ⟨fun c hc => ?_, fun t ht => ?_, fun rest ts ok hT => ?_⟩
  · rcases List.mem_append.mp hc with z | z
    · rcases List.mem_append.mp z with y | y
      · exact h.asc c y
      · rw [(List.mem_replicate.mp y).2]; decide
    · exact r.asc c z
  · rcases List.mem_append.mp ht with z | z
    · exact h.ne t z
    · exact r.each t z
  · obtain ⟨t1, ts1, e1, _⟩ := r.hd
    have ok2 : ∀ t, rows.getLast? = some t → Okc t.t rest := fun t e => ok t (by rw [List.getLast?_append, e]; rfl)
    have q := toks_sp (r.go rest ts ok2 hT) n
    have q2 := h.go (List.replicate n 32 ++ (tx ++ rest)) (rows ++ ts) (fun t e => ?_) q
    · rw [List.append_assoc, List.append_assoc, List.append_assoc]; exact q2
    · intro c s ec
      cases n with
      | zero =>
        have ne := r.ne
        cases tx with
        | nil => exact absurd rfl ne
        | cons x xs =>
          have ec : x :: (xs ++ rest) = c :: s := ec
          have e2 : x = c := (List.cons.inj ec).1
          subst e2
          exact ap rfl t e x rfl
      | succ n =>
        rw [List.replicate_succ] at ec
        have e2 : 32 = c := (List.cons.inj ec).1
        subst e2
        exact ⟨fun d _ => ⟨fun _ => rfl, fun _ => rfl⟩, fun _ => rfl⟩
theorem pl_toks {n : Nat} : ∀ l : List Tok, plL (l.map Tok.d) (n + 1) = true
  | [] => rfl
  | r :: l => by
    rw [List.map_cons]
    show (plD r.d (n + 1) && plL (l.map Tok.d) (n + 1)) = true
    rw [pl_toks l, show plD r.d (n + 1) = true from rfl]
    rfl
theorem cls_L {c : Nat} (h : isL c = true) : cls c = 2 := by
  unfold cls; rw [L_not_D h, h]; rfl
theorem cls_D {c : Nat} (h : isD c = true) : cls c = 1 := by
  unfold cls; rw [h]; rfl
theorem apart_0 {t : List Nat} {c : Nat} (h : ¬ 0 < cls c) : Apart t c := by
  have hL : isL c = false := by
    cases z : isL c with
    | true => rw [cls_L z] at h; exact absurd (by decide) h
    | false => rfl
  have hD : isD c = false := by
    cases z : isD c with
    | true => rw [cls_D z] at h; exact absurd (by decide) h
    | false => rfl
  exact ⟨fun d _ => ⟨fun _ => hL, fun _ => hD⟩, fun _ => hD⟩
theorem apart_1 {t : List Nat} {c d : Nat} (hd : t.getLast? = some d) (h : cls c ≠ cls d) (h2 : t = [45] → cls c ≠ 1) : Apart t c := by
  refine ⟨fun d' e => ?_, fun e => ?_⟩
  · rw [hd] at e
    cases e
    refine ⟨fun z => ?_, fun z => ?_⟩
    · cases y : isL c with
      | true => rw [cls_L z, cls_L y] at h; exact absurd rfl h
      | false => rfl
    · cases y : isD c with
      | true => rw [cls_D z, cls_D y] at h; exact absurd rfl h
      | false => rfl
  · cases y : isD c with
    | true => exact absurd (cls_D y) (h2 e)
    | false => rfl
theorem law_turn {ds : List Int} {k : Nat} {T : List Nat} {due : List Tok} {x0 x4 x5 x6 x7 x8 : Option D} {d : D} (hp : Put T due) (lT : T.length ≤ 2000) (lD : due.length ≤ 2000) :
    ∃ T' due' k' y5 y6 y7, turnF (.name 4) b_law_1 d [x0, some (.ptr 0), some (.lst (due.map Tok.d)), some (.str (sl T)), x4, x5, x6, x7, x8] [bxC ds k] =
      .nx [x0, some (.ptr 0), some (.lst (due'.map Tok.d)), some (.str (sl T')), some d, y5, y6, y7, x8] [bxC ds k'] ∧ Put T' due' ∧ T'.length ≤ T.length + 22 ∧ due'.length ≤ due.length + 2 := by
  obtain ⟨tx, rows, k1, et, row⟩ := r_Ltoken (ds := ds) (k := k) (T := [])
  have d6 := drw_lt (ds := ds) (k := k1) (m := 6) (by decide)
  have dr6 := r_Ldraw (ds := ds) (k := k1) (T := []) (show (0 : Int) < 6 by decide)
  obtain ⟨n0, en0, hn0⟩ := at_six d6.1 d6.2
  generalize drw ds k1 6 = r6 at en0 dr6
  obtain ⟨t1, ts1, er, eh⟩ := row.hd
  have e1 := row.each t1 (by rw [er]; exact List.mem_cons_self)
  obtain ⟨c, s, ec⟩ : ∃ c s, t1.t = c :: s := by
    cases h : t1.t with
    | nil => exact absurd h e1.1
    | cons c s => exact ⟨c, s, rfl⟩
  have hs : s.length ≤ 20 := by have := e1.2.1; rw [ec, List.length_cons] at this; omega
  have hc : c < 128 := e1.2.2 c (by rw [ec]; exact List.mem_cons_self)
  have txh : tx.head? = some c := by rw [← eh, ec]; rfl
  have ln := row.ln
  have len := row.len
  have r0 : ∀ S, ixD (.lst (rows.map Tok.d)) (.int 0) S = some t1.d := fun S => by rw [er]; exact (ix_lst).trans at_0
  have r0' : atI (rows.map Tok.d) 0 = some t1.d := by rw [er]; exact at_0
  have r1 : ∀ S, ixD t1.d (.int 1) S = some (.str (sl (c :: s))) := fun S => by rw [← ec]; exact (ix_tup).trans at_1
  have lf := fun S => r_Lfirst (S := S) (c := c) (s := s) hc (by omega)
  have cm := fun {y0 y1 y2 y3 y4 y5 y6 y7 y8 : Option D} {S : Store} => compL_map (f := turnC (.name 8) [8] .none e_law_1 [y0, y1, y2, y3, y4, y5, y6, y7, y8]) (g := Tok.d) (h := fun t => .str (sl t.t)) (S := S) rows [] (by simp; omega) (fun t _ => by
    rw [turn_n]
    show ((ev e_law_1 [y0, y1, y2, y3, y4, y5, y6, y7, some t.d] S).bind fun x S => .ok (some x) S).nox = _
    have t1 : ∀ S, ixD t.d (.int 1) S = some (.str (sl t.t)) := fun S => (ix_tup).trans at_1
    unfold e_law_1
    simp only [bind_ok, fl_ok, of_some, seq_nx, seq_ret, pick_t, pick_f, getV_ok, putE_ok, putS_ok, ev_var, ev_non, ev_bl, ev_int, ev_str, ev_glob, ev_bin, ev_cmp, negD_int, ev_neg, notD_bl, ev_not, ev_band, ev_bor, pickE_t, pickE_f, and_1, and_c, or_1, or_c, ev_chain, ev_isN, ev_notN, ev_ite, ev_call, ev_bi, ev_tup, ev_new, new_f, ev_dnewK, ev_dnewT, ev_ix, ev_sl, ev_frz, evs_nil, evs_cons, evN_n, intN_int, evN_s, evO_n, evO_s, evL_disp, ev_join, joinM_s, evL_sorted, evL_sortk, evL_list, evL_keys, seq_lst, seq_tup, ex_putp, evL_cm, evI_seq, evI_rng1, evI_rng2, evI_enum, exs_nil, exs_cons, exs_frz, ex_asg, setT_n, ex_par, ex_put, ex_aug, augD_ok, ex_drop, ex_app, ex_ifs, ex_for, ex_while, ex_ret, ex_retN, ex_pass, unlock_nx, unlock_ret, lock_seq, lock_rng1, lock_rng2, lock_enum, lock_text, cmp_lt, cmp_le, cmp_gt, cmp_ge, cmp_eqi, cmp_nei, cmp_eqb, cmp_neb, b_add, b_sub, bi_abs, bi_int, len_lst, len_tup, len_scr, ix_lst, ix_tup, ix_scr, at_0, at_1, at_2, at_3, isN_non, isN_int, isN_tup, isN_lst, isN_str, isN_bl, List.getElem?_cons_succ, List.getElem?_cons_zero, Option.map_some, List.set_cons_succ, List.set_cons_zero, t1]
    rfl)
  have cm' : ∀ {y0 y1 y2 y3 y4 y5 y6 y7 y8 : Option D} {S : Store}, compL (turnC (.name 8) ([(("_law_row" : Str), 8)].map (·.2)) .none e_law_1 [y0, y1, y2, y3, y4, y5, y6, y7, y8]) (rows.map Tok.d) [] S = .ok (rows.map fun t => .str (sl t.t)) S := cm
  have jo := row.jo
  have adr : ∀ S, binD .add (.lst (due.map Tok.d)) (.lst (rows.map Tok.d)) S = some (.lst ((due ++ rows).map Tok.d)) := fun S => by
    show (if (due.map Tok.d).length + (rows.map Tok.d).length ≤ 1000000 then some (D.lst (due.map Tok.d ++ rows.map Tok.d)) else none) = _
    rw [if_pos (by simp; omega), List.map_append]
  have ad1 : ∀ (n : Nat) S, n ≤ 2 → binD .add (.str (sl T)) (.str (sl (List.replicate n 32))) S = some (.str (sl (T ++ List.replicate n 32))) := fun n S h => add_sl (by simp; omega)
  have ad2 : ∀ (n : Nat) S, n ≤ 2 → binD .add (.str (sl (T ++ List.replicate n 32))) (.str (sl tx)) S = some (.str (sl (T ++ List.replicate n 32 ++ tx))) := fun n S h => add_sl (by simp; omega)
  -- what the test makes of it
  have out : ∀ n : Nat, n ≤ 2 → (n = 0 → ∀ t, due.getLast? = some t → ∀ c, tx.head? = some c → Apart t.t c) → Put (T ++ List.replicate n 32 ++ tx) (due ++ rows) ∧ (T ++ List.replicate n 32 ++ tx).length ≤ T.length + 22 ∧ (due ++ rows).length ≤ due.length + 2 := fun n h1 h2 =>
    ⟨put_more hp row h2, by simp; omega, by simp; omega⟩
  have len_due : ∀ S, biD .len [.lst (due.map Tok.d)] S = some (.int (due.length : Int)) := fun S => by rw [len_lst, List.length_map]
  have skip : ∀ (P : Prop), P → P := fun _ h => h
  have ng : ∀ S, negD (.int 1) S = .ok (.int (-1)) S := fun S => rfl
  rcases List.eq_nil_or_concat due with e0 | ⟨due', tl, e0⟩
  · -- the first row
    refine ⟨T ++ List.replicate n0 32 ++ tx, due ++ rows, k1 + 1, some (.lst (rows.map Tok.d)), some (.int (n0 : Int)), some (.str (sl (c :: s))), ?_, out n0 hn0 fun _ t ht => by rw [e0] at ht; cases ht⟩
    have l0 : due.length = 0 := by rw [e0]; rfl
    show exs b_law_1 [x0, some (.ptr 0), some (.lst (due.map Tok.d)), some (.str (sl T)), some d, x5, x6, x7, x8] [bxC ds k] = _
    unfold b_law_1
    simp only [bind_ok, fl_ok, of_some, seq_nx, seq_ret, pick_t, pick_f, getV_ok, putE_ok, putS_ok, ev_var, ev_non, ev_bl, ev_int, ev_str, ev_glob, ev_bin, ev_cmp, negD_int, ev_neg, notD_bl, ev_not, ev_band, ev_bor, pickE_t, pickE_f, and_1, and_c, or_1, or_c, ev_chain, ev_isN, ev_notN, ev_ite, ev_call, ev_bi, ev_tup, ev_new, new_f, ev_dnewK, ev_dnewT, ev_ix, ev_sl, ev_frz, evs_nil, evs_cons, evN_n, intN_int, evN_s, evO_n, evO_s, evL_disp, ev_join, joinM_s, evL_sorted, evL_sortk, evL_list, evL_keys, seq_lst, seq_tup, ex_putp, evL_cm, evI_seq, evI_rng1, evI_rng2, evI_enum, exs_nil, exs_cons, exs_frz, ex_asg, setT_n, ex_par, ex_put, ex_aug, augD_ok, ex_drop, ex_app, ex_ifs, ex_for, ex_while, ex_ret, ex_retN, ex_pass, unlock_nx, unlock_ret, lock_seq, lock_rng1, lock_rng2, lock_enum, lock_text, cmp_lt, cmp_le, cmp_gt, cmp_ge, cmp_eqi, cmp_nei, cmp_eqb, cmp_neb, b_add, b_sub, bi_abs, bi_int, len_lst, len_tup, len_scr, ix_lst, ix_tup, ix_scr, at_0, at_1, at_2, at_3, isN_non, isN_int, isN_tup, isN_lst, isN_str, isN_bl, List.getElem?_cons_succ, List.getElem?_cons_zero, Option.map_some, List.set_cons_succ, List.set_cons_zero, et, ix_lst, dr6, en0, r0', r1, len_due, decide_eq_false (show ¬ (0 : Int) < (due.length : Int) by omega), mul_sp hn0, ad1 n0 _ hn0, iter_l, cm', unl_none, jo, ad2 n0 _ hn0, adr]
  · have e0 : due = due' ++ [tl] := by rw [e0, List.concat_eq_append]
    have gl : due.getLast? = some tl := by rw [e0]; simp
    have etl := hp.ne tl (by rw [e0]; simp)
    obtain ⟨w, dd, ew⟩ : ∃ w dd, tl.t = w ++ [dd] := by
      rcases List.eq_nil_or_concat tl.t with z | ⟨w, dd, z⟩
      · exact absurd z etl.1
      · exact ⟨w, dd, by rw [z, List.concat_eq_append]⟩
    have hw : w.length ≤ 20 := by have := etl.2.1; rw [ew, List.length_append] at this; simp at this; omega
    have hdd : dd < 128 := etl.2.2 dd (by rw [ew]; simp)
    have glt : tl.t.getLast? = some dd := by rw [ew]; simp
    have dl : (0 : Int) < (due.length : Int) := by
      have := congrArg List.length e0
      rw [List.length_append] at this
      simp at this; omega
    have al : atI (due.map Tok.d) (-1) = some tl.d := by rw [e0, List.map_append]; exact at_lst
    have tl1 : ∀ S, ixD tl.d (.int 1) S = some (.str (sl (w ++ [dd]))) := fun S => by rw [← ew]; exact (ix_tup).trans at_1
    have ls := fun S => r_Lsort (S := S) (c := dd) (s := w) hdd (by omega)
    have em : (sl (w ++ [dd]) == ("-" : Str)) = decide (tl.t = [45]) := by
      rw [show ("-" : Str) = sl [45] from rfl, sl_beq, ew]
    have mx : (if (n0 : Int) > 1 then (n0 : Int) else 1) = ((max 1 n0 : Nat) : Int) := by split <;> omega
    have mx2 : max 1 n0 ≤ 2 := by omega
    have mx0 : ¬ max 1 n0 = 0 := by omega
    by_cases p0 : 0 < cls c
    · by_cases p1 : cls c = cls dd
      · refine ⟨T ++ List.replicate (max 1 n0) 32 ++ tx, due ++ rows, k1 + 1, some (.lst (rows.map Tok.d)), some (.int ((max 1 n0 : Nat) : Int)), some (.str (sl (c :: s))), ?_, out _ mx2 fun z => absurd z mx0⟩
        have p1' : (cls c == cls dd) = true := by simpa using p1
        show exs b_law_1 [x0, some (.ptr 0), some (.lst (due.map Tok.d)), some (.str (sl T)), some d, x5, x6, x7, x8] [bxC ds k] = _
        unfold b_law_1
        simp only [bind_ok, fl_ok, of_some, seq_nx, seq_ret, pick_t, pick_f, getV_ok, putE_ok, putS_ok, ev_var, ev_non, ev_bl, ev_int, ev_str, ev_glob, ev_bin, ev_cmp, negD_int, ev_neg, notD_bl, ev_not, ev_band, ev_bor, pickE_t, pickE_f, and_1, and_c, or_1, or_c, ev_chain, ev_isN, ev_notN, ev_ite, ev_call, ev_bi, ev_tup, ev_new, new_f, ev_dnewK, ev_dnewT, ev_ix, ev_sl, ev_frz, evs_nil, evs_cons, evN_n, intN_int, evN_s, evO_n, evO_s, evL_disp, ev_join, joinM_s, evL_sorted, evL_sortk, evL_list, evL_keys, seq_lst, seq_tup, ex_putp, evL_cm, evI_seq, evI_rng1, evI_rng2, evI_enum, exs_nil, exs_cons, exs_frz, ex_asg, setT_n, ex_par, ex_put, ex_aug, augD_ok, ex_drop, ex_app, ex_ifs, ex_for, ex_while, ex_ret, ex_retN, ex_pass, unlock_nx, unlock_ret, lock_seq, lock_rng1, lock_rng2, lock_enum, lock_text, cmp_lt, cmp_le, cmp_gt, cmp_ge, cmp_eqi, cmp_nei, cmp_eqb, cmp_neb, b_add, b_sub, bi_abs, bi_int, len_lst, len_tup, len_scr, ix_lst, ix_tup, ix_scr, at_0, at_1, at_2, at_3, isN_non, isN_int, isN_tup, isN_lst, isN_str, isN_bl, List.getElem?_cons_succ, List.getElem?_cons_zero, Option.map_some, List.set_cons_succ, List.set_cons_zero, et, ix_lst, dr6, en0, r0', r1, len_due, decide_eq_true dl, lf, decide_eq_true p0, al, tl1, ls, p1', bi_max, mx, mul_sp mx2, ad1 _ _ mx2, iter_l, cm', unl_none, jo, ad2 _ _ mx2, adr]
      · have p1' : (cls c == cls dd) = false := by simpa using p1
        by_cases p2 : tl.t = [45]
        · rw [decide_eq_true p2] at em
          by_cases p3 : cls c = 1
          · have p3' : (cls c == 1) = true := by simpa using p3
            refine ⟨T ++ List.replicate (max 1 n0) 32 ++ tx, due ++ rows, k1 + 1, some (.lst (rows.map Tok.d)), some (.int ((max 1 n0 : Nat) : Int)), some (.str (sl (c :: s))), ?_, out _ mx2 fun z => absurd z mx0⟩
            show exs b_law_1 [x0, some (.ptr 0), some (.lst (due.map Tok.d)), some (.str (sl T)), some d, x5, x6, x7, x8] [bxC ds k] = _
            unfold b_law_1
            simp only [bind_ok, fl_ok, of_some, seq_nx, seq_ret, pick_t, pick_f, getV_ok, putE_ok, putS_ok, ev_var, ev_non, ev_bl, ev_int, ev_str, ev_glob, ev_bin, ev_cmp, negD_int, ev_neg, notD_bl, ev_not, ev_band, ev_bor, pickE_t, pickE_f, and_1, and_c, or_1, or_c, ev_chain, ev_isN, ev_notN, ev_ite, ev_call, ev_bi, ev_tup, ev_new, new_f, ev_dnewK, ev_dnewT, ev_ix, ev_sl, ev_frz, evs_nil, evs_cons, evN_n, intN_int, evN_s, evO_n, evO_s, evL_disp, ev_join, joinM_s, evL_sorted, evL_sortk, evL_list, evL_keys, seq_lst, seq_tup, ex_putp, evL_cm, evI_seq, evI_rng1, evI_rng2, evI_enum, exs_nil, exs_cons, exs_frz, ex_asg, setT_n, ex_par, ex_put, ex_aug, augD_ok, ex_drop, ex_app, ex_ifs, ex_for, ex_while, ex_ret, ex_retN, ex_pass, unlock_nx, unlock_ret, lock_seq, lock_rng1, lock_rng2, lock_enum, lock_text, cmp_lt, cmp_le, cmp_gt, cmp_ge, cmp_eqi, cmp_nei, cmp_eqb, cmp_neb, b_add, b_sub, bi_abs, bi_int, len_lst, len_tup, len_scr, ix_lst, ix_tup, ix_scr, at_0, at_1, at_2, at_3, isN_non, isN_int, isN_tup, isN_lst, isN_str, isN_bl, List.getElem?_cons_succ, List.getElem?_cons_zero, Option.map_some, List.set_cons_succ, List.set_cons_zero, et, ix_lst, dr6, en0, r0', r1, len_due, decide_eq_true dl, lf, decide_eq_true p0, al, tl1, ls, p1', cmp_eqs, em, p3', bi_max, mx, mul_sp mx2, ad1 _ _ mx2, iter_l, cm', unl_none, jo, ad2 _ _ mx2, adr]
          · have p3' : (cls c == 1) = false := by simpa using p3
            refine ⟨T ++ List.replicate n0 32 ++ tx, due ++ rows, k1 + 1, some (.lst (rows.map Tok.d)), some (.int (n0 : Int)), some (.str (sl (c :: s))), ?_, out n0 hn0 fun _ t ht c' hc' => by
              rw [gl] at ht; cases ht
              rw [txh] at hc'; cases hc'
              exact apart_1 glt p1 fun _ => p3⟩
            show exs b_law_1 [x0, some (.ptr 0), some (.lst (due.map Tok.d)), some (.str (sl T)), some d, x5, x6, x7, x8] [bxC ds k] = _
            unfold b_law_1
            simp only [bind_ok, fl_ok, of_some, seq_nx, seq_ret, pick_t, pick_f, getV_ok, putE_ok, putS_ok, ev_var, ev_non, ev_bl, ev_int, ev_str, ev_glob, ev_bin, ev_cmp, negD_int, ev_neg, notD_bl, ev_not, ev_band, ev_bor, pickE_t, pickE_f, and_1, and_c, or_1, or_c, ev_chain, ev_isN, ev_notN, ev_ite, ev_call, ev_bi, ev_tup, ev_new, new_f, ev_dnewK, ev_dnewT, ev_ix, ev_sl, ev_frz, evs_nil, evs_cons, evN_n, intN_int, evN_s, evO_n, evO_s, evL_disp, ev_join, joinM_s, evL_sorted, evL_sortk, evL_list, evL_keys, seq_lst, seq_tup, ex_putp, evL_cm, evI_seq, evI_rng1, evI_rng2, evI_enum, exs_nil, exs_cons, exs_frz, ex_asg, setT_n, ex_par, ex_put, ex_aug, augD_ok, ex_drop, ex_app, ex_ifs, ex_for, ex_while, ex_ret, ex_retN, ex_pass, unlock_nx, unlock_ret, lock_seq, lock_rng1, lock_rng2, lock_enum, lock_text, cmp_lt, cmp_le, cmp_gt, cmp_ge, cmp_eqi, cmp_nei, cmp_eqb, cmp_neb, b_add, b_sub, bi_abs, bi_int, len_lst, len_tup, len_scr, ix_lst, ix_tup, ix_scr, at_0, at_1, at_2, at_3, isN_non, isN_int, isN_tup, isN_lst, isN_str, isN_bl, List.getElem?_cons_succ, List.getElem?_cons_zero, Option.map_some, List.set_cons_succ, List.set_cons_zero, et, ix_lst, dr6, en0, r0', r1, len_due, decide_eq_true dl, lf, decide_eq_true p0, al, tl1, ls, p1', cmp_eqs, em, p3', mul_sp hn0, ad1 n0 _ hn0, iter_l, cm', unl_none, jo, ad2 n0 _ hn0, adr]
        · rw [decide_eq_false p2] at em
          refine ⟨T ++ List.replicate n0 32 ++ tx, due ++ rows, k1 + 1, some (.lst (rows.map Tok.d)), some (.int (n0 : Int)), some (.str (sl (c :: s))), ?_, out n0 hn0 fun _ t ht c' hc' => by
            rw [gl] at ht; cases ht
            rw [txh] at hc'; cases hc'
            exact apart_1 glt p1 fun z => absurd z p2⟩
          show exs b_law_1 [x0, some (.ptr 0), some (.lst (due.map Tok.d)), some (.str (sl T)), some d, x5, x6, x7, x8] [bxC ds k] = _
          unfold b_law_1
          simp only [bind_ok, fl_ok, of_some, seq_nx, seq_ret, pick_t, pick_f, getV_ok, putE_ok, putS_ok, ev_var, ev_non, ev_bl, ev_int, ev_str, ev_glob, ev_bin, ev_cmp, negD_int, ev_neg, notD_bl, ev_not, ev_band, ev_bor, pickE_t, pickE_f, and_1, and_c, or_1, or_c, ev_chain, ev_isN, ev_notN, ev_ite, ev_call, ev_bi, ev_tup, ev_new, new_f, ev_dnewK, ev_dnewT, ev_ix, ev_sl, ev_frz, evs_nil, evs_cons, evN_n, intN_int, evN_s, evO_n, evO_s, evL_disp, ev_join, joinM_s, evL_sorted, evL_sortk, evL_list, evL_keys, seq_lst, seq_tup, ex_putp, evL_cm, evI_seq, evI_rng1, evI_rng2, evI_enum, exs_nil, exs_cons, exs_frz, ex_asg, setT_n, ex_par, ex_put, ex_aug, augD_ok, ex_drop, ex_app, ex_ifs, ex_for, ex_while, ex_ret, ex_retN, ex_pass, unlock_nx, unlock_ret, lock_seq, lock_rng1, lock_rng2, lock_enum, lock_text, cmp_lt, cmp_le, cmp_gt, cmp_ge, cmp_eqi, cmp_nei, cmp_eqb, cmp_neb, b_add, b_sub, bi_abs, bi_int, len_lst, len_tup, len_scr, ix_lst, ix_tup, ix_scr, at_0, at_1, at_2, at_3, isN_non, isN_int, isN_tup, isN_lst, isN_str, isN_bl, List.getElem?_cons_succ, List.getElem?_cons_zero, Option.map_some, List.set_cons_succ, List.set_cons_zero, et, ix_lst, dr6, en0, r0', r1, len_due, decide_eq_true dl, lf, decide_eq_true p0, al, tl1, ls, p1', cmp_eqs, em, mul_sp hn0, ad1 n0 _ hn0, iter_l, cm', unl_none, jo, ad2 n0 _ hn0, adr]
    · refine ⟨T ++ List.replicate n0 32 ++ tx, due ++ rows, k1 + 1, some (.lst (rows.map Tok.d)), some (.int (n0 : Int)), some (.str (sl (c :: s))), ?_, out n0 hn0 fun _ t ht c' hc' => by
        rw [txh] at hc'; cases hc'
        exact apart_0 p0⟩
      show exs b_law_1 [x0, some (.ptr 0), some (.lst (due.map Tok.d)), some (.str (sl T)), some d, x5, x6, x7, x8] [bxC ds k] = _
      unfold b_law_1
      simp only [bind_ok, fl_ok, of_some, seq_nx, seq_ret, pick_t, pick_f, getV_ok, putE_ok, putS_ok, ev_var, ev_non, ev_bl, ev_int, ev_str, ev_glob, ev_bin, ev_cmp, negD_int, ev_neg, notD_bl, ev_not, ev_band, ev_bor, pickE_t, pickE_f, and_1, and_c, or_1, or_c, ev_chain, ev_isN, ev_notN, ev_ite, ev_call, ev_bi, ev_tup, ev_new, new_f, ev_dnewK, ev_dnewT, ev_ix, ev_sl, ev_frz, evs_nil, evs_cons, evN_n, intN_int, evN_s, evO_n, evO_s, evL_disp, ev_join, joinM_s, evL_sorted, evL_sortk, evL_list, evL_keys, seq_lst, seq_tup, ex_putp, evL_cm, evI_seq, evI_rng1, evI_rng2, evI_enum, exs_nil, exs_cons, exs_frz, ex_asg, setT_n, ex_par, ex_put, ex_aug, augD_ok, ex_drop, ex_app, ex_ifs, ex_for, ex_while, ex_ret, ex_retN, ex_pass, unlock_nx, unlock_ret, lock_seq, lock_rng1, lock_rng2, lock_enum, lock_text, cmp_lt, cmp_le, cmp_gt, cmp_ge, cmp_eqi, cmp_nei, cmp_eqb, cmp_neb, b_add, b_sub, bi_abs, bi_int, len_lst, len_tup, len_scr, ix_lst, ix_tup, ix_scr, at_0, at_1, at_2, at_3, isN_non, isN_int, isN_tup, isN_lst, isN_str, isN_bl, List.getElem?_cons_succ, List.getElem?_cons_zero, Option.map_some, List.set_cons_succ, List.set_cons_zero, et, ix_lst, dr6, en0, r0', r1, len_due, decide_eq_true dl, lf, decide_eq_false p0, mul_sp hn0, ad1 n0 _ hn0, iter_l, cm', unl_none, jo, ad2 n0 _ hn0, adr]
theorem law_true : ∀ ns : List Int, ns.length ≤ 63 → ∃ S, f_law [.scr (ns.map D.int)] [] = .ok (.bl true) S := by
  intro ns _
  obtain ⟨ds, hd⟩ := r_Ldigits (ns := ns) (lo := 0) (hi := 63) (by decide) (by decide) (by decide)
  have hn : newL true [.lst (ds.map .int), .int 0] [] = .ok (.ptr 0) [bxC ds 0] := by
    rw [new_t (by show (ltL (ds.map D.int) 0 && true) = true; rw [lt_ints]; rfl)]
    rfl
  have d1 := drw_lt (ds := ds) (k := 0) (m := 2) (by decide)
  have dr1 := r_Ldraw (ds := ds) (k := 0) (T := []) (show (0 : Int) < 2 by decide)
  have d2 := drw_lt (ds := ds) (k := 0 + 1) (m := 15) (by decide)
  have dr2 := r_Ldraw (ds := ds) (k := 0 + 1) (T := []) (show (0 : Int) < 15 by decide)
  obtain ⟨n, hn1⟩ : ∃ n : Nat, drw ds 0 2 = (n : Int) := ⟨_, (Int.toNat_of_nonneg d1.1).symm⟩
  have n2 : n ≤ 2 := by omega
  rw [hn1] at dr1
  obtain ⟨ρ', S', q, T, due, k, x4, x5, x6, x7, rfl, rfl, hp, lT, lD⟩ := forL_inv (f := turnF (.name 4) b_law_1) (I := fun j ρ S' => ∃ (T : List Nat) (due : List Tok) (k : Nat) (x4 x5 x6 x7 : Option D), ρ = [some (.scr (ns.map .int)), some (.ptr 0), some (.lst (due.map Tok.d)), some (.str (sl T)), x4, x5, x6, x7, none] ∧ S' = [bxC ds k] ∧ Put T due ∧ T.length ≤ 2 + 22 * j ∧ due.length ≤ 2 * j) (rangeD 0 (drw ds (0 + 1) 15)) 0
    [some (.scr (ns.map .int)), some (.ptr 0), some (.lst []), some (.str (sl (List.replicate n 32))), none, none, none, none, none] [bxC ds (0 + 1 + 1)] ⟨List.replicate n 32, [], 0 + 1 + 1, none, none, none, none, rfl, rfl, put_start n, by simp; omega, Nat.le_refl _⟩ (by
    rintro i d ρ S' hd ⟨T, due, k, x4, x5, x6, x7, rfl, rfl, hp, lT, lD⟩
    obtain ⟨_, hi⟩ := rangeD_get hd
    have hi : i < 15 := by omega
    obtain ⟨T', due', k', y5, y6, y7, e, hp', l1, l2⟩ := law_turn (ds := ds) (k := k) (x0 := some (.scr (ns.map .int))) (x4 := x4) (x5 := x5) (x6 := x6) (x7 := x7) (x8 := none) (d := d) hp (by omega) (by omega)
    exact ⟨_, _, e, T', due', k', some d, y5, y6, y7, rfl, rfl, hp', by omega, by omega⟩)
  rw [rangeD_len] at lT lD
  have d3 := drw_lt (ds := ds) (k := k) (m := 2) (by decide)
  have dr3 := r_Ldraw (ds := ds) (k := k) (T := []) (show (0 : Int) < 2 by decide)
  obtain ⟨n3, hn3⟩ : ∃ n : Nat, drw ds k 2 = (n : Int) := ⟨_, (Int.toNat_of_nonneg d3.1).symm⟩
  have n32 : n3 ≤ 2 := by omega
  rw [hn3] at dr3
  have tk : Toks (T ++ List.replicate n3 32) (due ++ []) := hp.go _ _ (fun t _ c r e => by
    cases n3 with
    | zero => cases e
    | succ m =>
      rw [List.replicate_succ] at e
      have e2 : 32 = c := (List.cons.inj e).1
      subst e2
      exact ⟨fun d _ => ⟨fun _ => rfl, fun _ => rfl⟩, fun _ => rfl⟩) (by
    have := toks_sp Toks.nil n3
    rw [List.append_nil] at this
    exact this)
  rw [List.append_nil] at tk
  have rt := r_tokens (S := [bxC ds (k + 1)]) (l := T ++ List.replicate n3 32) (by simp; omega) (fun c hc => by
    rcases List.mem_append.mp hc with z | z
    · exact hp.asc c z
    · rw [(List.mem_replicate.mp z).2]; decide) tk
  have ad := add_sl (S := [bxC ds (k + 1)]) (a := T) (b := List.replicate n3 32) (by simp; omega)
  have sm : f_Lsame 8 [.lst (due.map Tok.d), .lst (due.map Tok.d)] [bxC ds (k + 1)] = .ok (.bl true) [bxC ds (k + 1)] := r_same 7 _ _ (by
    show (decide ((due.map Tok.d).length ≤ 1000000) && plL (due.map Tok.d) 6) = true
    rw [pl_toks, decide_eq_true (by rw [List.length_map]; omega)]
    rfl)
  have h1 : exs c_law [some (.scr (ns.map .int)), none, none, none, none, none, none, none, none] [] = .ret (.bl true) [bxC ds (k + 1)] := by
    unfold c_law
    simp only [bind_ok, fl_ok, of_some, seq_nx, seq_ret, pick_t, pick_f, getV_ok, putE_ok, putS_ok, ev_var, ev_non, ev_bl, ev_int, ev_str, ev_glob, ev_bin, ev_cmp, negD_int, ev_neg, notD_bl, ev_not, ev_band, ev_bor, pickE_t, pickE_f, and_1, and_c, or_1, or_c, ev_chain, ev_isN, ev_notN, ev_ite, ev_call, ev_bi, ev_tup, ev_new, new_f, ev_dnewK, ev_dnewT, ev_ix, ev_sl, ev_frz, evs_nil, evs_cons, evN_n, intN_int, evN_s, evO_n, evO_s, evL_disp, ev_join, joinM_s, evL_sorted, evL_sortk, evL_list, evL_keys, seq_lst, seq_tup, ex_putp, evL_cm, evI_seq, evI_rng1, evI_rng2, evI_enum, exs_nil, exs_cons, exs_frz, ex_asg, setT_n, ex_par, ex_put, ex_aug, augD_ok, ex_drop, ex_app, ex_ifs, ex_for, ex_while, ex_ret, ex_retN, ex_pass, unlock_nx, unlock_ret, lock_seq, lock_rng1, lock_rng2, lock_enum, lock_text, cmp_lt, cmp_le, cmp_gt, cmp_ge, cmp_eqi, cmp_nei, cmp_eqb, cmp_neb, b_add, b_sub, bi_abs, bi_int, len_lst, len_tup, len_scr, ix_lst, ix_tup, ix_scr, at_0, at_1, at_2, at_3, isN_non, isN_int, isN_tup, isN_lst, isN_str, isN_bl, List.getElem?_cons_succ, List.getElem?_cons_zero, Option.map_some, List.set_cons_succ, List.set_cons_zero, hd, hn, dr1, mul_sp n2, dr2, rngD_ok (small_i (show 0 ≤ drw ds (0 + 1) 15 by omega) (by omega)), q, dr3, mul_sp n32, ad, rt, sm]
  exact ⟨_, (fn_ret (k := 9) rfl h1).trans (expo_flat rfl)⟩
end MI.K
namespace MI.K
open PySem PySem.Spec L2
def topS (i : Nat) : PySem.Stmt := PySem.Challenge.pw_homingtrue_k02_tokens_of_lines.main.body.getD i (.Pass ⟨0, 0, 0, 0⟩)
abbrev st_run_end : PySem.Stmt := topS 5
theorem sc_run_end : L2.FnScope ["line", "at", "chars", "end"] ["line", "at", "chars"] (L2.defScope st_run_end) := ⟨rfl, rfl, rfl, by decide +kernel, rfl, by decide +kernel, by decide +kernel⟩
theorem ck_run_end : chkSs ["line", "at", "chars", "end"] (L2.defScope st_run_end) (fun _ => true) c_run_end (L2.defBody st_run_end) = true := by kernel_rfl
abbrev st_is_number : PySem.Stmt := topS 6
theorem sc_is_number : L2.FnScope ["run"] ["run"] (L2.defScope st_is_number) := ⟨rfl, rfl, rfl, by decide +kernel, rfl, by decide +kernel, by decide +kernel⟩
theorem ck_is_number : chkSs ["run"] (L2.defScope st_is_number) (fun _ => true) c_is_number (L2.defBody st_is_number) = true := by kernel_rfl
abbrev st_token : PySem.Stmt := topS 7
theorem sc_token : L2.FnScope ["line", "at", "char", "run"] ["line", "at"] (L2.defScope st_token) := ⟨rfl, rfl, rfl, by decide +kernel, rfl, by decide +kernel, by decide +kernel⟩
theorem ck_token : chkSs ["line", "at", "char", "run"] (L2.defScope st_token) (fun _ => true) c_token (L2.defBody st_token) = true := by kernel_rfl
abbrev st_tokens : PySem.Stmt := topS 8
theorem sc_tokens : L2.FnScope ["line", "found", "at", "token"] ["line"] (L2.defScope st_tokens) := ⟨rfl, rfl, rfl, by decide +kernel, rfl, by decide +kernel, by decide +kernel⟩
theorem ck_tokens : chkSs ["line", "found", "at", "token"] (L2.defScope st_tokens) (fun _ => true) c_tokens (L2.defBody st_tokens) = true := by kernel_rfl
abbrev st_Lcell : PySem.Stmt := topS 10
theorem sc_Lcell : L2.FnScope ["_law_script", "_law_k"] ["_law_script", "_law_k"] (L2.defScope st_Lcell) := ⟨rfl, rfl, rfl, by decide +kernel, rfl, by decide +kernel, by decide +kernel⟩
theorem ck_Lcell : chkSs ["_law_script", "_law_k"] (L2.defScope st_Lcell) (fun _ => true) c_Lcell (L2.defBody st_Lcell) = true := by kernel_rfl
abbrev st_Ldigits : PySem.Stmt := topS 11
theorem sc_Ldigits : L2.FnScope ["_law_script", "_law_first_here", "_law_last", "_law_digits_here", "_law_k", "_law_cell_here", "_law_turn", "_law_seed"] ["_law_script", "_law_first_here", "_law_last"] (L2.defScope st_Ldigits) := ⟨rfl, rfl, rfl, by decide +kernel, rfl, by decide +kernel, by decide +kernel⟩
theorem ck_Ldigits : chkSs ["_law_script", "_law_first_here", "_law_last", "_law_digits_here", "_law_k", "_law_cell_here", "_law_turn", "_law_seed"] (L2.defScope st_Ldigits) (fun _ => true) c_Ldigits (L2.defBody st_Ldigits) = true := by kernel_rfl
abbrev st_Ldraw : PySem.Stmt := topS 12
theorem sc_Ldraw : L2.FnScope ["_law_box", "_law_many", "_law_at"] ["_law_box", "_law_many"] (L2.defScope st_Ldraw) := ⟨rfl, rfl, rfl, by decide +kernel, rfl, by decide +kernel, by decide +kernel⟩
theorem ck_Ldraw : chkSs ["_law_box", "_law_many", "_law_at"] (L2.defScope st_Ldraw) (fun _ => true) c_Ldraw (L2.defBody st_Ldraw) = true := by kernel_rfl
abbrev st_Lsame : PySem.Stmt := topS 13
theorem sc_Lsame : L2.FnScope ["_law_actual", "_law_due", "_law_k"] ["_law_actual", "_law_due"] (L2.defScope st_Lsame) := ⟨rfl, rfl, rfl, by decide +kernel, rfl, by decide +kernel, by decide +kernel⟩
theorem ck_Lsame (g : Fn) : chkSs ["_law_actual", "_law_due", "_law_k"] (L2.defScope st_Lsame) (fun _ => true) (c_Lsame g) (L2.defBody st_Lsame) = true := by kernel_rfl
abbrev st_Lrun : PySem.Stmt := topS 14
theorem sc_Lrun : L2.FnScope ["_law_box", "_law_many", "_law_chars", "_law_text", "_law_k"] ["_law_box", "_law_many", "_law_chars"] (L2.defScope st_Lrun) := ⟨rfl, rfl, rfl, by decide +kernel, rfl, by decide +kernel, by decide +kernel⟩
theorem ck_Lrun : chkSs ["_law_box", "_law_many", "_law_chars", "_law_text", "_law_k"] (L2.defScope st_Lrun) (fun _ => true) c_Lrun (L2.defBody st_Lrun) = true := by kernel_rfl
abbrev st_Ltoken : PySem.Stmt := topS 15
theorem sc_Ltoken : L2.FnScope ["_law_box", "_law_kind", "_law_text", "_law_right"] ["_law_box"] (L2.defScope st_Ltoken) := ⟨rfl, rfl, rfl, by decide +kernel, rfl, by decide +kernel, by decide +kernel⟩
theorem ck_Ltoken : chkSs ["_law_box", "_law_kind", "_law_text", "_law_right"] (L2.defScope st_Ltoken) (fun _ => true) c_Ltoken (L2.defBody st_Ltoken) = true := by kernel_rfl
abbrev st_Lsort : PySem.Stmt := topS 16
theorem sc_Lsort : L2.FnScope ["_law_text"] ["_law_text"] (L2.defScope st_Lsort) := ⟨rfl, rfl, rfl, by decide +kernel, rfl, by decide +kernel, by decide +kernel⟩
theorem ck_Lsort : chkSs ["_law_text"] (L2.defScope st_Lsort) (fun _ => true) c_Lsort (L2.defBody st_Lsort) = true := by kernel_rfl
abbrev st_Lfirst : PySem.Stmt := topS 17
theorem sc_Lfirst : L2.FnScope ["_law_text"] ["_law_text"] (L2.defScope st_Lfirst) := ⟨rfl, rfl, rfl, by decide +kernel, rfl, by decide +kernel, by decide +kernel⟩
theorem ck_Lfirst : chkSs ["_law_text"] (L2.defScope st_Lfirst) (fun _ => true) c_Lfirst (L2.defBody st_Lfirst) = true := by kernel_rfl
abbrev st_law : PySem.Stmt := topS 18
theorem sc_law : L2.FnScope ["_law_script", "_law_box", "_law_due", "_law_text", "_law_k", "_law_rows", "_law_spaces", "_law_first_here", "_law_row"] ["_law_script"] (L2.defScope st_law) := ⟨rfl, rfl, rfl, by decide +kernel, rfl, by decide +kernel, by decide +kernel⟩
theorem ck_law : chkSs ["_law_script", "_law_box", "_law_due", "_law_text", "_law_k", "_law_rows", "_law_spaces", "_law_first_here", "_law_row"] (L2.defScope st_law) (fun _ => true) c_law (L2.defBody st_law) = true := by kernel_rfl
def xs0 : List Str := (["_run_end", "_is_number", "_token", "tokens", "_law_cell", "_law_digits", "_law_draw", "_law_same", "_law_run", "_law_token", "_law_sort", "_law_first", "law"] : List Str)
def fn0 : List He.DefD := ([dfn "_run_end" st_run_end, dfn "_is_number" st_is_number, dfn "_token" st_token, dfn "tokens" st_tokens, dfn "_law_cell" st_Lcell, dfn "_law_digits" st_Ldigits, dfn "_law_draw" st_Ldraw, dfn "_law_same" st_Lsame, dfn "_law_run" st_Lrun, dfn "_law_token" st_Ltoken, dfn "_law_sort" st_Lsort, dfn "_law_first" st_Lfirst, dfn "law" st_law] : List He.DefD)
def loose0 : List Str := (["_run_end", "_is_number", "_token", "tokens", "_law_cell", "_law_digits", "_law_draw", "_law_same", "_law_run", "_law_token", "_law_sort", "_law_first", "DIGITS", "LETTERS", "WORD_LENGTH", "NUMBER_LENGTH"] : List Str)
abbrev R0 : PySem.W.OpenRow := PySem.W.OpenLaw.row PySem.Challenge.rw_homingtrue_k02_tokens_of_lines
def is0 : List (Str × Gv) := ([("DIGITS", .s "0123456789"), ("LETTERS", .s "abcdefghijklmnopqrstuvwxyz"), ("WORD_LENGTH", .i 8), ("NUMBER_LENGTH", .i 4)] : List (Str × Gv))
abbrev hk0 : PySem.W.Hook := He.hookD 6 (fa0 xs0 is0) fn0
def ob0 (s : PySem.W.SharedT) : He.AlD := He.obsDG 6 (fa0 xs0 is0) fn0 (HandSHeadRun.getT s)
theorem ob_eq0 (s : PySem.W.SharedT) : ob0 s = hk0.obs s.abs := He.obsDG_eq (HandSHeadRun.getT_eq s)
theorem run0 (w : World) : HandSHeadRun.RunEq R0 (PySem.W.view R0.prog [18]) hk0 ob0 2000 loose0 w := by
  intro os
  kernel_rfl
theorem gi_DIGITS : GDi is0 "DIGITS" (.str "0123456789") := ⟨.s "0123456789", by decide +kernel, rfl⟩
theorem gi_LETTERS : GDi is0 "LETTERS" (.str "abcdefghijklmnopqrstuvwxyz") := ⟨.s "abcdefghijklmnopqrstuvwxyz", by decide +kernel, rfl⟩
theorem gi_WORD_LENGTH : GDi is0 "WORD_LENGTH" (.int 8) := ⟨.i 8, by decide +kernel, rfl⟩
theorem gi_NUMBER_LENGTH : GDi is0 "NUMBER_LENGTH" (.int 4) := ⟨.i 4, by decide +kernel, rfl⟩
theorem facts {P : Program} {w : World} {K : PySem.W.Frag} {h : Heap} {mg : Str → Option Value} {f : Addr} (X : K.In h) (G : h.Ns mainGlobals mg) (hfa : mg ("law" : Str) = some (.ref f)) (c : He.SaysD (fa0 xs0 is0) fn0 K) :
    ∃ fd : FuncData, (∀ (s : Shared) (v : Value), BindsTo s fd ⟨[v], []⟩ [("_law_script", v)]) ∧ ∀ base : Heap, K.In base → base.Ns mainGlobals mg → L2.FnOk P w K mg base (L2.CX P w) 27 f fd ["_law_script"] (spOf K mg f_law) := by
  have hb := fact_free X G c
  have gd0 := fact_int X G c
  obtain ⟨fd_run_end, D_run_end⟩ := def_at (ps := ["line", "at", "chars"]) (x := "_run_end") (st := st_run_end) (i := 0) X G c rfl rfl (fun _ _ _ _ _ _ us hl => match us, hl with | [_, _, _], _ => rfl)
  obtain ⟨fd_is_number, D_is_number⟩ := def_at (ps := ["run"]) (x := "_is_number") (st := st_is_number) (i := 1) X G c rfl rfl (fun _ _ _ _ _ _ us hl => match us, hl with | [_], _ => rfl)
  obtain ⟨fd_token, D_token⟩ := def_at (ps := ["line", "at"]) (x := "_token") (st := st_token) (i := 2) X G c rfl rfl (fun _ _ _ _ _ _ us hl => match us, hl with | [_, _], _ => rfl)
  obtain ⟨fd_tokens, D_tokens⟩ := def_at (ps := ["line"]) (x := "tokens") (st := st_tokens) (i := 3) X G c rfl rfl (fun _ _ _ _ _ _ us hl => match us, hl with | [_], _ => rfl)
  obtain ⟨fd_Lcell, D_Lcell⟩ := def_at (ps := ["_law_script", "_law_k"]) (x := "_law_cell") (st := st_Lcell) (i := 4) X G c rfl rfl (fun _ _ _ _ _ _ us hl => match us, hl with | [_, _], _ => rfl)
  obtain ⟨fd_Ldigits, D_Ldigits⟩ := def_at (ps := ["_law_script", "_law_first_here", "_law_last"]) (x := "_law_digits") (st := st_Ldigits) (i := 5) X G c rfl rfl (fun _ _ _ _ _ _ us hl => match us, hl with | [_, _, _], _ => rfl)
  obtain ⟨fd_Ldraw, D_Ldraw⟩ := def_at (ps := ["_law_box", "_law_many"]) (x := "_law_draw") (st := st_Ldraw) (i := 6) X G c rfl rfl (fun _ _ _ _ _ _ us hl => match us, hl with | [_, _], _ => rfl)
  obtain ⟨fd_Lsame, D_Lsame⟩ := def_at (ps := ["_law_actual", "_law_due"]) (x := "_law_same") (st := st_Lsame) (i := 7) X G c rfl rfl (fun _ _ _ _ _ _ us hl => match us, hl with | [_, _], _ => rfl)
  obtain ⟨fd_Lrun, D_Lrun⟩ := def_at (ps := ["_law_box", "_law_many", "_law_chars"]) (x := "_law_run") (st := st_Lrun) (i := 8) X G c rfl rfl (fun _ _ _ _ _ _ us hl => match us, hl with | [_, _, _], _ => rfl)
  obtain ⟨fd_Ltoken, D_Ltoken⟩ := def_at (ps := ["_law_box"]) (x := "_law_token") (st := st_Ltoken) (i := 9) X G c rfl rfl (fun _ _ _ _ _ _ us hl => match us, hl with | [_], _ => rfl)
  obtain ⟨fd_Lsort, D_Lsort⟩ := def_at (ps := ["_law_text"]) (x := "_law_sort") (st := st_Lsort) (i := 10) X G c rfl rfl (fun _ _ _ _ _ _ us hl => match us, hl with | [_], _ => rfl)
  obtain ⟨fd_Lfirst, D_Lfirst⟩ := def_at (ps := ["_law_text"]) (x := "_law_first") (st := st_Lfirst) (i := 11) X G c rfl rfl (fun _ _ _ _ _ _ us hl => match us, hl with | [_], _ => rfl)
  obtain ⟨fd_law, D_law⟩ := def_at (ps := ["_law_script"]) (x := "law") (st := st_law) (i := 12) X G c rfl rfl (fun _ _ _ _ _ _ us hl => match us, hl with | [_], _ => rfl)
  have e := hfa.symm.trans D_law.mgf
  cases e
  refine ⟨fd_law, fun s v => L2.FunD.bindsA (ps := ["_law_script"]) D_law.fn (fun _ _ _ _ _ _ us hl => match us, hl with | [_], _ => rfl) s [v] rfl, fun base b1 b2 => ?_⟩
  have q_run_end : CalOk P w K mg base 3 "_run_end" f_run_end := def_ok D_run_end sc_run_end hb gd0 ck_run_end (by simp only [c_run_end, w_run_end_1, b_run_end_1, CSs.good, CS.good, CE.good, CEs.good, CO.good, CL.good, CI.good, gi_DIGITS, gi_LETTERS, gi_WORD_LENGTH, gi_NUMBER_LENGTH, and_true, true_and])
  have q_is_number : CalOk P w K mg base 3 "_is_number" f_is_number := def_ok D_is_number sc_is_number hb gd0 ck_is_number (by simp only [c_is_number, CSs.good, CS.good, CE.good, CEs.good, CO.good, CL.good, CI.good, gi_DIGITS, gi_LETTERS, gi_WORD_LENGTH, gi_NUMBER_LENGTH, and_true, true_and])
  have u_run_end := q_run_end.up (show 3 ≤ 3 by decide)
  have u_is_number := q_is_number.up (show 3 ≤ 3 by decide)
  have q_token : CalOk P w K mg base 6 "_token" f_token := def_ok D_token sc_token hb gd0 ck_token (by simp only [c_token, CSs.good, CS.good, CE.good, CEs.good, CO.good, CL.good, CI.good, gi_DIGITS, gi_LETTERS, gi_WORD_LENGTH, gi_NUMBER_LENGTH, u_run_end, u_is_number, and_true, true_and])
  have u_token := q_token.up (show 6 ≤ 6 by decide)
  have q_tokens : CalOk P w K mg base 9 "tokens" f_tokens := def_ok D_tokens sc_tokens hb gd0 ck_tokens (by simp only [c_tokens, w_tokens_1, b_tokens_1, CSs.good, CS.good, CE.good, CEs.good, CO.good, CL.good, CI.good, gi_DIGITS, gi_LETTERS, gi_WORD_LENGTH, gi_NUMBER_LENGTH, u_token, and_true, true_and])
  have q_Lcell : CalOk P w K mg base 3 "_law_cell" f_Lcell := def_ok D_Lcell sc_Lcell hb gd0 ck_Lcell (by simp only [c_Lcell, CSs.good, CS.good, CE.good, CEs.good, CO.good, CL.good, CI.good, gi_DIGITS, gi_LETTERS, gi_WORD_LENGTH, gi_NUMBER_LENGTH, and_true, true_and])
  have u_Lcell := q_Lcell.up (show 3 ≤ 3 by decide)
  have q_Ldigits : CalOk P w K mg base 6 "_law_digits" f_Ldigits := def_ok D_Ldigits sc_Ldigits hb gd0 ck_Ldigits (by simp only [c_Ldigits, b_Ldigits_1, b_Ldigits_2, b_Ldigits_3, CSs.good, CS.good, CE.good, CEs.good, CO.good, CL.good, CI.good, gi_DIGITS, gi_LETTERS, gi_WORD_LENGTH, gi_NUMBER_LENGTH, u_Lcell, and_true, true_and])
  have q_Ldraw : CalOk P w K mg base 3 "_law_draw" f_Ldraw := def_ok D_Ldraw sc_Ldraw hb gd0 ck_Ldraw (by simp only [c_Ldraw, CSs.good, CS.good, CE.good, CEs.good, CO.good, CL.good, CI.good, gi_DIGITS, gi_LETTERS, gi_WORD_LENGTH, gi_NUMBER_LENGTH, and_true, true_and])
  have q_Lsame : ∀ n, CalOk P w K mg base (0 + 3 * n) "_law_same" (f_Lsame n) := by
    intro n; induction n with
    | zero => exact stuck_ok D_Lsame
    | succ n ih =>
      exact (def_ok (lv := 0 + 3 * n) D_Lsame sc_Lsame hb gd0 (ck_Lsame (f_Lsame n)) (by simp only [c_Lsame, b_Lsame_1, CSs.good, CS.good, CE.good, CEs.good, CO.good, CL.good, CI.good, gi_DIGITS, gi_LETTERS, gi_WORD_LENGTH, gi_NUMBER_LENGTH, ih, and_true, true_and])).up (by omega)
  have q_Lsame : CalOk P w K mg base 24 "_law_same" (f_Lsame 8) := (q_Lsame 8).up (by decide)
  have u_Ldraw := q_Ldraw.up (show 3 ≤ 3 by decide)
  have q_Lrun : CalOk P w K mg base 6 "_law_run" f_Lrun := def_ok D_Lrun sc_Lrun hb gd0 ck_Lrun (by simp only [c_Lrun, b_Lrun_1, CSs.good, CS.good, CE.good, CEs.good, CO.good, CL.good, CI.good, gi_DIGITS, gi_LETTERS, gi_WORD_LENGTH, gi_NUMBER_LENGTH, u_Ldraw, and_true, true_and])
  have u_Ldraw := q_Ldraw.up (show 3 ≤ 6 by decide)
  have u_Lrun := q_Lrun.up (show 6 ≤ 6 by decide)
  have q_Ltoken : CalOk P w K mg base 9 "_law_token" f_Ltoken := def_ok D_Ltoken sc_Ltoken hb gd0 ck_Ltoken (by simp only [c_Ltoken, CSs.good, CS.good, CE.good, CEs.good, CO.good, CL.good, CI.good, gi_DIGITS, gi_LETTERS, gi_WORD_LENGTH, gi_NUMBER_LENGTH, u_Ldraw, u_Lrun, and_true, true_and])
  have q_Lsort : CalOk P w K mg base 3 "_law_sort" f_Lsort := def_ok D_Lsort sc_Lsort hb gd0 ck_Lsort (by simp only [c_Lsort, CSs.good, CS.good, CE.good, CEs.good, CO.good, CL.good, CI.good, gi_DIGITS, gi_LETTERS, gi_WORD_LENGTH, gi_NUMBER_LENGTH, and_true, true_and])
  have q_Lfirst : CalOk P w K mg base 3 "_law_first" f_Lfirst := def_ok D_Lfirst sc_Lfirst hb gd0 ck_Lfirst (by simp only [c_Lfirst, CSs.good, CS.good, CE.good, CEs.good, CO.good, CL.good, CI.good, gi_DIGITS, gi_LETTERS, gi_WORD_LENGTH, gi_NUMBER_LENGTH, and_true, true_and])
  have u_tokens := q_tokens.up (show 9 ≤ 24 by decide)
  have u_Ldigits := q_Ldigits.up (show 6 ≤ 24 by decide)
  have u_Ldraw := q_Ldraw.up (show 3 ≤ 24 by decide)
  have u_Lsame := q_Lsame.up (show 24 ≤ 24 by decide)
  have u_Ltoken := q_Ltoken.up (show 9 ≤ 24 by decide)
  have u_Lsort := q_Lsort.up (show 3 ≤ 24 by decide)
  have u_Lfirst := q_Lfirst.up (show 3 ≤ 24 by decide)
  exact body_ok D_law.fn sc_law hb gd0 ck_law (by simp only [c_law, e_law_1, b_law_1, CSs.good, CS.good, CE.good, CEs.good, CO.good, CL.good, CI.good, gi_DIGITS, gi_LETTERS, gi_WORD_LENGTH, gi_NUMBER_LENGTH, u_tokens, u_Ldigits, u_Ldraw, u_Lsame, u_Ltoken, u_Lsort, u_Lfirst, and_true, true_and])
end MI.K
open PySem PySem.W PySem.Calls PyProof.Rows
set_option maxHeartbeats 0 in
theorem PySem.Challenge.cw_homingtrue_k02_tokens_of_lines_holds : PySem.Challenge.rw_homingtrue_k02_tokens_of_lines.Holds := by
  w_on; o_law
  refine HandSHeadRun.head_any (r := MI.K.R0) (q := view MI.K.R0.prog [18]) (H := MI.K.hk0) (ob := MI.K.ob0) (M := 2000) (loose := MI.K.loose0) (d := HandSHeadRun.topDef MI.K.R0.prog 18) (kwd := []) MI.K.ob_eq0
    (by kernel_rfl) (fun s => by kernel_rfl) MI.K.run0 (by kernel_rfl) (by kernel_rfl) (by kernel_rfl) (by rfl) (by first | assumption | decide +kernel) (by decide +kernel) ⟨rfl, rfl, rfl, rfl, rfl, by decide +kernel⟩ ?hw ?hc
  case hw => w_witness2
  case hc =>
    refine MI.walk_mi (l := PySem.Challenge.rw_homingtrue_k02_tokens_of_lines) (k := 27) (x := "_law_script") (g := MI.K.f_law) rfl (by kernel_rfl) ⟨rfl, by decide, by decide⟩ MI.K.law_true ?F
    intro w mg fa h Y G hmg0
    obtain ⟨K, KX, c⟩ := Y
    have hmg : mg ("law" : PySem.Str) = some (.ref fa) := by
      have e : (HandSHeadRun.topDef MI.K.R0.prog 18).name = ("law" : PySem.Str) := by kernel_rfl
      rw [← e]
      exact hmg0
    obtain ⟨fd, hb, hF⟩ := MI.K.facts (P := (PySem.Challenge.rw_homingtrue_k02_tokens_of_lines).prog) (w := w) KX G hmg c
    exact ⟨K, fd, KX, hb, hF⟩
