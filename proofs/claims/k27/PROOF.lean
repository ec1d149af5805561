import PyProof.Rows.All
import Wide.All
import OpenK.AllK
import Wide.FinOn
import HandS.ForMost
import HandS.ForExc
import HandS.Star
import HandS.IsInst
import HandS.Wide
import HandS.Deep
import HandS.TupAny
import HandS.Flow
import HandS.Style
import HandS.Zip
import HandS.Walk
import HandS.Defaults
import HandS.HeadHook1
import HandS.ExcInit
import HandS.ExcField
import HandS.TryMany
import HandS.Property
import HandS.CallSlots
import KE.KEqNest
import KE.SortData
import KE.SortKeyHeap
import HandS.SortKw
import HandS.ExcValue
import KE.GoesMore
import HandS.Remove
import HandS.ClsMeth
import HandS.HeadWalk
import HandS.Ends
import HandS.More
import HandS.Head0
import HandS.Head1
import HandS.Head2
import HandS.HeadEnd
import HandS.HeadHook2
import PySem.Challenge.RW_anyfactors_k27_hidden_sets
set_option linter.all false
/-! DL: a small language with its meaning (what must hold ahead so that what is wanted holds behind), in plain Lean.
Values are whole data (texts as lists of signs, tuples, frozen lists and dicts), or places of things that may still change. -/
namespace DL
abbrev S := List Nat
abbrev DK := Sum Int S
inductive DV where
  | non | bl (b : Bool) | int (i : Int) | str (s : S)
  | tup (xs : List DV) | lst (xs : List DV)
  | dic (kvs : List (DK × DV)) | dit (kvs : List (List DK × DV))
  | ins (c : Nat) (fs : List (S × DV))
  | loc (a : Nat)
  | scr (ns : List Int)
abbrev Env := List (Option DV)
inductive DO where
  | lst (xs : List DV) | dic (kvs : List (DK × DV)) | dit (kvs : List (List DK × DV)) | ins (c : Nat) (fs : List (S × DV)) | st
abbrev Mu := Nat → Option DO
def Mu.put (m : Mu) (a : Nat) (o : DO) : Mu := fun b => if b = a then some o else m b
def Mu.del (m : Mu) (a : Nat) : Mu := fun b => if b = a then none else m b
def Mu.nil : Mu := fun _ => none
structure Exc where
  cls : Nat
  arg : DV
abbrev Post := DV → Mu → Prop
abbrev XPost := Exc → Mu → Prop
/-- a def by its promise; one that sees no changing thing -/
abbrev FSp := List DV → Mu → Post → XPost → Prop
abbrev PSp := List DV → (DV → Prop) → (Exc → Prop) → Prop
inductive Fn where
  | pure (s : PSp) | gen (s : FSp)
abbrev LINE : Nat := 16777216
/-- what stands there -/
def look (m : Mu) : DV → DV
  | .loc a => match m a with
    | some (.lst xs) => .lst xs
    | some (.dic k) => .dic k
    | some (.dit k) => .dit k
    | some (.ins c fs) => .ins c fs
    | _ => .loc a
  | d => d
def isLoc : DV → Bool
  | .loc _ => true
  | _ => false
/-! no list, no dict, no object, no place within -/
mutual
def noMut : DV → Bool
  | .tup xs => noMuts xs
  | .ins _ _ => false
  | .lst _ => false
  | .dic _ => false
  | .dit _ => false
  | .loc _ => false
  | .scr _ => false
  | .non => true
  | .bl _ => true
  | .int _ => true
  | .str _ => true
def noMuts : List DV → Bool
  | [] => true
  | x :: r => noMut x && noMuts r
end
/-! == of data -/
mutual
def eqv : DV → DV → Bool
  | .non, .non => true
  | .bl a, .bl b => a == b
  | .bl a, .int j => (if a then 1 else 0) == j
  | .int i, .bl b => i == (if b then 1 else 0)
  | .int i, .int j => i == j
  | .str x, .str y => x == y
  | .lst xs, .lst ys => eqvs xs ys
  | .tup xs, .tup ys => eqvs xs ys
  | _, _ => false
def eqvs : List DV → List DV → Bool
  | [], [] => true
  | x :: r, y :: s => eqv x y && eqvs r s
  | _, _ => false
end
/-! None, bools, ints, texts, lists and tuples of such -/
mutual
def plain : DV → Bool
  | .non => true
  | .bl _ => true
  | .int _ => true
  | .str _ => true
  | .tup xs => plains xs
  | .lst xs => plains xs
  | _ => false
def plains : List DV → Bool
  | [] => true
  | x :: r => plain x && plains r
end
mutual
def depth : DV → Nat
  | .tup xs => depths xs + 1
  | .lst xs => depths xs + 1
  | _ => 0
def depths : List DV → Nat
  | [] => 0
  | x :: r => max (depth x) (depths r)
end
inductive BOp where
  | add | sub | mul | fdiv | mod | pow
  deriving DecidableEq
inductive COp where
  | eq | ne | lt | le | gt | ge | isin | notin | isN | notN | eqT | neT
  deriving DecidableEq
inductive Kind where
  | int | bool | str | tuple | list | dict | ins (c : Nat)
  deriving DecidableEq
inductive Blt where
  | len | abs | int | list | tuple | sorted | any | all | sum | max2 | min2 | str
  deriving DecidableEq
inductive Met where
  | append | pop | pop0 | join | split | index | remove
  deriving DecidableEq
/-- further operations, by what is asked of the values: a field, a property, a new object of a class, a method; {}; sorted of texts, of pairs (int, tuple of texts), of tuples of texts by a key; x is True -/
inductive Op where
  | att (i c : Nat) (f : S) | prp (i c : Nat) | mk (i : Nat)
  | dnil | srt | srtK (f : Nat) | isT | notT
  deriving DecidableEq
inductive Pat where
  | name (i : Nat) | pair (a b : Pat)
mutual
inductive Ex where
  | var (i : Nat)
  | cst (d : DV)
  | tup (es : Its) | lst (es : Its)
  | bin (op : BOp) (a b : Ex)
  | neg (a : Ex)
  | cmp (op : COp) (a b : Ex)
  | cmp2 (op op' : COp) (a b c : Ex)
  | notv (a : Ex) | andv (a b : Ex) | orv (a b : Ex)
  | ife (t : Ts) (a b : Ex)
  | sub (a b : Ex)
  | slc (a : Ex) (lo hi : Ox)
  | rev (a : Ex)
  | call (f : Nat) (es : Exs)
  | blt (b : Blt) (es : Exs)
  | isi (e : Ex) (k : Kind)
  | met (m : Met) (o : Ex) (es : Exs)
  | comp (p : Pat) (vs : List Nat) (it : It) (t : Ts) (e : Ex)
  | own (e : Ex) | frz (e : Ex)
  | op (o : Op) (es : Exs)
  | mth (i c : Nat) (nm : S) (o : Ex) (es : Exs)
inductive Ts where
  | and (a b : Ts) | or (a b : Ts) | not (a : Ts) | ex (e : Ex) | yes
inductive Ox where
  | none | some (e : Ex)
inductive Exs where
  | nil | cons (e : Ex) (r : Exs)
inductive Its where
  | nil | one (e : Ex) (r : Its) | star (e : Ex) (r : Its)
inductive It where
  | seq (e : Ex) | range1 (e : Ex) | range2 (a b : Ex) | range3 (a b : Ex) (s : Int) | enum (e : Ex) | zip (a b : Ex)
end
/-! ### operations on values -/
def idx (n : Nat) (i : Int) : Option Nat := if 0 ≤ i then (if i < n then some i.toNat else none) else if -(n : Int) ≤ i then some (i + n).toNat else none
def atD (xs : List α) (i : Int) : Option α := (idx xs.length i).bind fun j => xs[j]?
/-- a slice's end -/
def sIx (n dflt : Nat) : Option Int → Nat
  | none => dflt
  | some i => if i < 0 then (i + n).toNat else min i.toNat n
def cut (xs : List α) (lo hi : Option Int) : List α := (xs.drop (sIx xs.length 0 lo)).take (sIx xs.length xs.length hi - sIx xs.length 0 lo)
def mulOk (i j : Int) : Prop := ((-(2 ^ 64) < i ∧ i < 2 ^ 64) ∨ (-(2 ^ 64) < j ∧ j < 2 ^ 64)) ∨ (i.natAbs < 2 ^ 400000 ∧ j.natAbs < 2 ^ 400000)
def divOk (j : Int) : Prop := (j ≠ 0 ∧ j.natAbs < 1073741824) ∨ (0 < j ∧ j.natAbs < 2 ^ 9000)
def binD (op : BOp) (x y : DV) (k : DV → Prop) : Prop :=
  match op, x, y with
  | .add, .int i, .int j => k (.int (i + j))
  | .add, .str s, .str t => s.length + t.length ≤ LINE ∧ k (.str (s ++ t))
  | .add, .tup s, .tup t => s.length + t.length ≤ LINE ∧ k (.tup (s ++ t))
  | .add, .lst s, .lst t => s.length + t.length ≤ LINE ∧ k (.lst (s ++ t))
  | .sub, .int i, .int j => k (.int (i - j))
  | .mul, .int i, .int j => mulOk i j ∧ k (.int (i * j))
  | .mul, .lst s, .int j => (0 ≤ j ∧ j < 1000 ∧ s.length ≤ 1000) ∧ k (.lst (List.replicate j.toNat s).flatten)
  | .fdiv, .int i, .int j => divOk j ∧ k (.int (i.fdiv j))
  | .mod, .int i, .int j => j ≠ 0 ∧ k (.int (i.fmod j))
  | .pow, .int i, .int j => (0 ≤ j ∧ j ≤ 1000 ∧ i.natAbs < 2 ^ 64) ∧ k (.int (i ^ j.toNat))
  | _, _, _ => False
/-- the same data, looked at through places (yes alone) -/
def all2 (p : DV → DV → Prop) : List DV → List DV → Prop
  | [], [] => True
  | x :: r, y :: s => p x y ∧ all2 p r s
  | _, _ => False
def leafT (x y : DV) : Prop := plain x = true ∧ plain y = true ∧ eqv x y = true ∧ depth x ≤ 20 ∧ depth y ≤ 20
def nodeT (p : DV → DV → Prop) (x y : DV) : Prop :=
  match x, y with
  | .tup xs, .tup ys => all2 p xs ys
  | .lst xs, .lst ys => all2 p xs ys
  | .dic [], .dic [] => True
  | _, _ => False
def EqT (m : Mu) : Nat → DV → DV → Prop
  | 0, x, y => leafT x y
  | n + 1, x, y => leafT x y ∨ nodeT (EqT m n) (look m x) (look m y)
def isNonD : DV → Bool
  | .non => true
  | _ => false
def cmpD (op : COp) (m : Mu) (x y : DV) (k : DV → Prop) : Prop :=
  match op with
  | .eqT => EqT m 20 x y ∧ k (.bl true)
  | .neT => EqT m 20 x y ∧ k (.bl false)
  | .eq => (plain x = true ∧ plain y = true ∧ depth x ≤ 60 ∧ depth y ≤ 60) ∧ k (.bl (eqv x y))
  | .ne => (plain x = true ∧ plain y = true ∧ depth x ≤ 60 ∧ depth y ≤ 60) ∧ k (.bl (!eqv x y))
  | .isN => isNonD y = true ∧ k (.bl (isNonD x))
  | .notN => isNonD y = true ∧ k (.bl (!isNonD x))
  | .lt => match x, y with
    | .int i, .int j => k (.bl (decide (i < j)))
    | .str i, .str j => k (.bl (decide (i < j)))
    | _, _ => False
  | .le => match x, y with
    | .int i, .int j => k (.bl (decide (i ≤ j)))
    | _, _ => False
  | .gt => match x, y with
    | .int i, .int j => k (.bl (decide (j < i)))
    | _, _ => False
  | .ge => match x, y with
    | .int i, .int j => k (.bl (decide (j ≤ i)))
    | _, _ => False
  | .isin => match y with
    | .lst ys => (plain x = true ∧ plains ys = true ∧ depth x ≤ 60 ∧ depths ys ≤ 59) ∧ k (.bl (ys.any fun z => eqv z x))
    | .tup ys => (plain x = true ∧ plains ys = true ∧ depth x ≤ 60 ∧ depths ys ≤ 59) ∧ k (.bl (ys.any fun z => eqv z x))
    | .str z => (match x with
      | .str [c] => k (.bl (decide (c ∈ z)))
      | _ => False)
    | _ => False
  | .notin => match y with
    | .lst ys => (plain x = true ∧ plains ys = true ∧ depth x ≤ 60 ∧ depths ys ≤ 59) ∧ k (.bl (!ys.any fun z => eqv z x))
    | .tup ys => (plain x = true ∧ plains ys = true ∧ depth x ≤ 60 ∧ depths ys ≤ 59) ∧ k (.bl (!ys.any fun z => eqv z x))
    | .str z => (match x with
      | .str [c] => k (.bl (!decide (c ∈ z)))
      | _ => False)
    | _ => False
def truD : DV → Option Bool
  | .non => some false
  | .bl b => some b
  | .int i => some (i != 0)
  | .lst s => some (!s.isEmpty)
  | .tup s => some (!s.isEmpty)
  | _ => none
def isiD (k : Kind) (d : DV) : Option Bool :=
  match d with
  | .non => (match k with | .ins _ => none | _ => some false)
  | .bl _ => (match k with | .ins _ => none | .int => some true | .bool => some true | _ => some false)
  | .int _ => (match k with | .ins _ => none | .int => some true | _ => some false)
  | .str _ => (match k with | .ins _ => none | .str => some true | _ => some false)
  | .tup _ => (match k with | .ins _ => none | .tuple => some true | _ => some false)
  | .lst _ => (match k with | .ins _ => none | .list => some true | _ => some false)
  | .dic _ => (match k with | .ins _ => none | .dict => some true | _ => some false)
  | _ => none
def subD (x y : DV) (k : DV → Prop) : Prop :=
  match x, y with
  | .lst xs, .int i => ∃ v, atD xs i = some v ∧ k v
  | .tup xs, .int i => ∃ v, atD xs i = some v ∧ k v
  | .str xs, .int i => xs.length ≤ LINE ∧ ∃ v, atD xs i = some v ∧ k (.str [v])
  | _, _ => False
def cutD (x : DV) (lo hi : Option Int) (k : DV → Prop) : Prop :=
  match x with
  | .lst xs => k (.lst (cut xs lo hi))
  | .tup xs => k (.tup (cut xs lo hi))
  | .str xs => xs.length ≤ LINE ∧ k (.str (cut xs lo hi))
  | _ => False
def revD (x : DV) (k : DV → Prop) : Prop :=
  match x with
  | .lst xs => k (.lst xs.reverse)
  | .tup xs => k (.tup xs.reverse)
  | .str xs => xs.length ≤ LINE ∧ k (.str xs.reverse)
  | _ => False
def strs? : List DV → Option (List S)
  | [] => some []
  | .str s :: r => (strs? r).map (s :: ·)
  | _ => none
def ints? : List DV → Option (List Int)
  | [] => some []
  | .int s :: r => (ints? r).map (s :: ·)
  | _ => none
def bls? : List DV → Option (List Bool)
  | [] => some []
  | .bl s :: r => (bls? r).map (s :: ·)
  | _ => none
def sjoin (sep : S) : List S → S
  | [] => []
  | [x] => x
  | x :: r => x ++ sep ++ sjoin sep r
/-! order of data that are alike -/
mutual
def alk : DV → DV → Bool
  | .bl _, .bl _ => true
  | .int _, .int _ => true
  | .str _, .str _ => true
  | .tup xs, .tup ys => alks xs ys
  | .lst xs, .lst ys => alks xs ys
  | _, _ => false
def alks : List DV → List DV → Bool
  | x :: xs, y :: ys => alk x y && alks xs ys
  | [], _ => true
  | _ :: _, [] => true
end
mutual
def ltv : DV → DV → Bool
  | .bl a, .bl b => !a && b
  | .int i, .int j => decide (i < j)
  | .str s, .str t => decide (s < t)
  | .tup xs, .tup ys => ltvs xs ys
  | .lst xs, .lst ys => ltvs xs ys
  | _, _ => false
def ltvs : List DV → List DV → Bool
  | x :: xs, y :: ys => if eqv x y = true then ltvs xs ys else ltv x y
  | [], _ :: _ => true
  | _, [] => false
end
def lev (a b : DV) : Bool := !ltv b a
def tupN : DV → Bool
  | .tup (_ :: _) => true
  | _ => false
def isTup : DV → Bool
  | .tup _ => true
  | _ => false
/-- what can be sorted -/
def srtOk (xs : List DV) : Prop := (∀ a ∈ xs, ∀ b ∈ xs, alk a b = true) ∧ ((∀ a ∈ xs, tupN a = true) ∨ (∀ a ∈ xs, isTup a = false)) ∧ plains xs = true ∧ depths xs ≤ 20
def srtD (x : DV) (k : DV → Prop) : Prop :=
  match x with
  | .lst xs => srtOk xs ∧ k (.lst (xs.mergeSort lev))
  | _ => False
/-- tuples of texts -/
def tupS (s : List S) : DV := .tup (s.map .str)
def lenD (ds : List DV) (k : DV → Prop) : Prop :=
  match ds with
  | [.lst xs] => k (.int xs.length)
  | [.tup xs] => k (.int xs.length)
  | [.str xs] => xs.length ≤ LINE ∧ k (.int xs.length)
  | _ => False
def absD (ds : List DV) (k : DV → Prop) : Prop :=
  match ds with
  | [.int i] => k (.int (if i < 0 then -i else i))
  | _ => False
def intD (ds : List DV) (k : DV → Prop) : Prop :=
  match ds with
  | [.int i] => k (.int i)
  | [.bl b] => k (.int (if b then 1 else 0))
  | _ => False
def listD (ds : List DV) (k : DV → Prop) : Prop :=
  match ds with
  | [.lst xs] => k (.lst xs)
  | [.tup xs] => k (.lst xs)
  | [.scr ns] => k (.lst (ns.map .int))
  | _ => False
def tupleD (ds : List DV) (k : DV → Prop) : Prop :=
  match ds with
  | [.lst xs] => k (.tup xs)
  | [.tup xs] => k (.tup xs)
  | _ => False
def maxD (ds : List DV) (k : DV → Prop) : Prop :=
  match ds with
  | [.int i, .int j] => k (.int (if j > i then j else i))
  | _ => False
def minD (ds : List DV) (k : DV → Prop) : Prop :=
  match ds with
  | [.int i, .int j] => k (.int (if j < i then j else i))
  | _ => False
def anyD (ds : List DV) (k : DV → Prop) : Prop :=
  match ds with
  | [.lst xs] => ∃ bs, bls? xs = some bs ∧ k (.bl (bs.any id))
  | _ => False
def allD (ds : List DV) (k : DV → Prop) : Prop :=
  match ds with
  | [.lst xs] => ∃ bs, bls? xs = some bs ∧ k (.bl (bs.all id))
  | _ => False
def sumD (ds : List DV) (k : DV → Prop) : Prop :=
  match ds with
  | [.lst xs] => ∃ is, ints? xs = some is ∧ k (.int is.sum)
  | _ => False
def bltD (b : Blt) (ds : List DV) (k : DV → Prop) : Prop :=
  match b with
  | .len => lenD ds k
  | .abs => absD ds k
  | .int => intD ds k
  | .list => listD ds k
  | .tuple => tupleD ds k
  | .max2 => maxD ds k
  | .min2 => minD ds k
  | .any => anyD ds k
  | .all => allD ds k
  | .sum => sumD ds k
  | .sorted => False
  | .str => False
/-- the items that a for walks -/
def itemsD : DV → Option (List DV)
  | .lst xs => some xs
  | .tup xs => some xs
  | .str xs => some (xs.map fun c => .str [c])
  | .scr ns => some (ns.map .int)
  | _ => none
def rangeL (lo : Int) (n : Nat) (s : Int) : List DV := (List.range n).map fun (i : Nat) => DV.int (lo + (i : Int) * s)
def enumL (xs : List DV) : List DV := (List.range xs.length).zipWith (fun (i : Nat) x => DV.tup [.int (i : Int), x]) xs
def zipL (xs ys : List DV) : List DV := xs.zipWith (fun x y => .tup [x, y]) ys
def bindP : Pat → DV → Env → Mu → (Env → Prop) → Prop
  | .name i, d, r, _, k => i < r.length ∧ k (r.set i (some d))
  | .pair a b, d, r, m, k => match look m d with
    | .tup [x, y] => bindP a x r m fun r1 => bindP b y r1 m k
    | _ => False
/-- the walk of a comprehension over items: those kept -/
def compW (turn : DV → Mu → (Option DV → Mu → Prop) → Prop) (src : Mu → Prop) : List DV → List DV → Mu → (List DV → Mu → Prop) → Prop
  | [], acc, m, k => src m ∧ k acc m
  | x :: r, acc, m, k => src m ∧ turn x m fun o m1 => match o with
    | some d => compW turn src r (acc ++ [d]) m1 k
    | none => compW turn src r acc m1 k
def isRng : It → Bool
  | .range1 _ => true
  | .range2 _ _ => true
  | .range3 _ _ _ => true
  | _ => false
section
variable (G : Nat → Option Fn)
def callD (f : Nat) (ds : List DV) (m : Mu) (k : Post) (e : XPost) : Prop :=
  match G f with
  | some (.pure s) => s (ds.map (look m)) (fun d => (ds.any isLoc = true → noMut d = true) ∧ k d m) (fun x => (ds.any isLoc = true → noMut x.arg = true) ∧ e x m)
  | some (.gen s) => s ds m k e
  | none => False
/-- where the methods' promises stand in the table -/
abbrev MT : Nat := 1000
/-- a field -/
def attD (c : Nat) (x : DV) (f : S) (k : DV → Prop) : Prop :=
  match x with
  | .ins c' fs => c' = c ∧ ∃ d, fs.lookup f = some d ∧ k d
  | _ => False
def isIns (c : Nat) : DV → Bool
  | .ins c' _ => c' == c
  | _ => false
/-- a thing of the class that has no field of the name -/
def noFld (c : Nat) (nm : S) : DV → Bool
  | .ins c' fs => c' == c && (fs.lookup nm).isNone
  | _ => false
def isTD (b : Bool) (x : DV) (k : DV → Prop) : Prop :=
  match x with
  | .bl c => k (.bl (c == b))
  | _ => False
/-- sorted by the key that a def tells -/
def srtKD (f : Nat) (x : DV) (k : DV → Prop) : Prop :=
  match x with
  | .lst xs => ∃ key : DV → DV, (∃ s, G f = some (.pure s) ∧ ∀ w ∈ xs, s [w] (fun d => d = key w ∧ noMut d = true) (fun _ => False)) ∧ srtOk (xs.map key) ∧ k (.lst (xs.mergeSort fun a b => lev (key a) (key b)))
  | _ => False
def opD (o : Op) (ds : List DV) (m : Mu) (k : Post) (e : XPost) : Prop :=
  match o with
  | .att _ c f => ∃ x, ds = [x] ∧ attD c (look m x) f fun z => k z m
  | .prp i c => ∃ x, ds = [x] ∧ isIns c (look m x) = true ∧ callD G (MT + i) ds m k (fun _ _ => False)
  | .mk i => callD G (MT + i) ds m k e
  | .dnil => ds = [] ∧ k (.dic []) m
  | .srt => ∃ x, ds = [x] ∧ srtD (look m x) fun z => k z m
  | .srtK f => ∃ x, ds = [x] ∧ srtKD G f (look m x) fun z => k z m
  | .isT => ∃ x, ds = [x] ∧ isTD true (look m x) fun z => k z m
  | .notT => ∃ x, ds = [x] ∧ isTD false (look m x) fun z => k z m
def newD (d : DV) (m : Mu) (k : Post) : Prop :=
  match d with
  | .lst xs => ∀ a, m a = none → k (.loc a) (m.put a (.lst xs))
  | .dic xs => ∀ a, m a = none → k (.loc a) (m.put a (.dic xs))
  | .dit xs => ∀ a, m a = none → k (.loc a) (m.put a (.dit xs))
  | _ => False
def frzD (d : DV) (m : Mu) (k : Post) : Prop :=
  match d with
  | .loc a => (match m a with
    | some (.lst xs) => k (.lst xs) (m.del a)
    | some (.dic xs) => k (.dic xs) (m.del a)
    | some (.dit xs) => k (.dit xs) (m.del a)
    | some (.ins c xs) => k (.ins c xs) (m.del a)
    | _ => False)
  | _ => False
def mtyp : Met → DV → Bool
  | .append, .lst _ => true
  | .pop, .lst _ => true
  | .pop0, .lst _ => true
  | .join, .str _ => true
  | .split, .str _ => true
  | .index, .lst _ => true
  | .remove, .lst _ => true
  | _, _ => false
def appendD (o : DV) (ds : List DV) (m : Mu) (k : Post) : Prop :=
  match o, ds with
  | .loc a, [d] => ∃ xs, m a = some (.lst xs) ∧ xs.length < LINE ∧ k .non (m.put a (.lst (xs ++ [d])))
  | _, _ => False
def popD (o : DV) (ds : List DV) (m : Mu) (k : Post) : Prop :=
  match o, ds with
  | .loc a, [.int i] => ∃ xs j v, m a = some (.lst xs) ∧ idx xs.length i = some j ∧ xs[j]? = some v ∧ k v (m.put a (.lst (xs.eraseIdx j)))
  | _, _ => False
def joinD (o : DV) (ds : List DV) (m : Mu) (k : Post) : Prop :=
  match o, ds with
  | .str s, [d] => ∃ xs, (look m d = .lst xs ∨ look m d = .tup xs) ∧ ∃ ss, strs? xs = some ss ∧ (ss.map List.length).sum + ss.length * s.length ≤ LINE ∧ k (.str (sjoin s ss)) m
  | _, _ => False
/-- xs.index(x), where it is found -/
def indexD (o : DV) (ds : List DV) (m : Mu) (k : Post) : Prop :=
  match look m o, ds with
  | .lst xs, [y] => (plain (look m y) = true ∧ plains xs = true ∧ depth (look m y) ≤ 60 ∧ depths xs ≤ 59) ∧ ∃ j : Nat, xs.findIdx? (fun z => eqv z (look m y)) = some j ∧ k (.int j) m
  | _, _ => False
/-- xs.remove(i), an int of a list of ints, where it is found -/
def removeD (o : DV) (ds : List DV) (m : Mu) (k : Post) : Prop :=
  match o, ds with
  | .loc a, [.int i] => ∃ is : List Int, m a = some (.lst (is.map .int)) ∧ i ∈ is ∧ k .non (m.put a (.lst ((is.erase i).map .int)))
  | _, _ => False
def metD (t : Met) (o : DV) (ds : List DV) (m : Mu) (k : Post) : Prop :=
  match t with
  | .append => appendD o ds m k
  | .pop => popD o ds m k
  | .join => joinD o ds m k
  | .pop0 => False
  | .split => False
  | .index => indexD o ds m k
  | .remove => removeD o ds m k
mutual
def rdE : Ex → Env → Mu → Post → XPost → Prop
  | .var i, r, m, k, _ => ∃ d, r[i]? = some (some d) ∧ k d m
  | .cst d, _, m, k, _ => k d m
  | .tup es, r, m, k, e => rdI es r m (fun ds m1 => ds.length ≤ LINE ∧ k (.tup ds) m1) e
  | .lst es, r, m, k, e => rdI es r m (fun ds m1 => ds.length ≤ LINE ∧ k (.lst ds) m1) e
  | .bin op a b, r, m, k, e => rdE a r m (fun x m1 => rdE b r m1 (fun y m2 => binD op (look m2 x) (look m2 y) fun z => k z m2) e) e
  | .neg a, r, m, k, e => rdE a r m (fun x m1 => ∃ i, x = .int i ∧ k (.int (-i)) m1) e
  | .cmp op a b, r, m, k, e => rdE a r m (fun x m1 => rdE b r m1 (fun y m2 => cmpD op m2 (look m2 x) (look m2 y) fun z => k z m2) e) e
  | .cmp2 op op' a b c, r, m, k, e => rdE a r m (fun x m1 => rdE b r m1 (fun y m2 => cmpD op m2 (look m2 x) (look m2 y) fun z => ∃ q, z = .bl q ∧
      if q = true then rdE c r m2 (fun w m3 => cmpD op' m3 (look m3 y) (look m3 w) fun z => k z m3) e else k (.bl false) m2) e) e
  | .notv a, r, m, k, e => rdE a r m (fun x m1 => ∃ c, x = .bl c ∧ k (.bl (!c)) m1) e
  | .andv a b, r, m, k, e => rdE a r m (fun x m1 => ∃ c, x = .bl c ∧ if c = true then rdE b r m1 k e else k (.bl false) m1) e
  | .orv a b, r, m, k, e => rdE a r m (fun x m1 => ∃ c, x = .bl c ∧ if c = true then k (.bl true) m1 else rdE b r m1 k e) e
  | .ife t a b, r, m, k, e => rdT t r m (fun c m1 => if c = true then rdE a r m1 k e else rdE b r m1 k e) e
  | .sub a b, r, m, k, e => rdE a r m (fun x m1 => rdE b r m1 (fun y m2 => subD (look m2 x) y fun z => k z m2) e) e
  | .slc a lo hi, r, m, k, e => rdE a r m (fun x m1 => rdO lo r m1 (fun i m2 => rdO hi r m2 (fun j m3 => cutD (look m3 x) i j fun z => k z m3) e) e) e
  | .rev a, r, m, k, e => rdE a r m (fun x m1 => revD (look m1 x) fun z => k z m1) e
  | .call f es, r, m, k, e => rdA es r m (fun ds m1 => callD G f ds m1 k e) e
  | .blt b es, r, m, k, e => rdA es r m (fun ds m1 => bltD b (ds.map (look m1)) fun z => k z m1) e
  | .isi a t, r, m, k, e => rdE a r m (fun x m1 => ∃ b, isiD t (look m1 x) = some b ∧ k (.bl b) m1) e
  | .met t o es, r, m, k, e => rdE o r m (fun x m1 => mtyp t (look m1 x) = true ∧ rdA es r m1 (fun ds m2 => metD t x ds m2 k) e) e
  | .comp p vs it t a, r, m, k, e => rdW it r m (fun src all m1 => (isRng it = true → all.length ≤ LINE) ∧
      compW (fun x m2 kk => bindP p x (vs.foldr (fun i q => q.set i none) r) m2 fun r2 => rdT t r2 m2 (fun c m3 => if c = true then rdE a r2 m3 (fun d m4 => kk (some d) m4) (fun _ _ => False) else kk none m3) (fun _ _ => False)) src all [] m1 (fun ds m2 => k (.lst ds) m2)) e
  | .own a, r, m, k, e => rdE a r m (fun d m1 => newD d m1 k) e
  | .frz a, r, m, k, e => rdE a r m (fun d m1 => frzD d m1 k) e
  | .op o es, r, m, k, e => rdA es r m (fun ds m1 => opD G o ds m1 k e) e
  | .mth i c nm o es, r, m, k, e => rdE o r m (fun x m1 => noFld c nm (look m1 x) = true ∧ rdA es r m1 (fun ds m2 => callD G (MT + i) (x :: ds) m2 k e) e) e
def rdT : Ts → Env → Mu → (Bool → Mu → Prop) → XPost → Prop
  | .and a b, r, m, k, e => rdT a r m (fun c m1 => if c = true then rdT b r m1 k e else k false m1) e
  | .or a b, r, m, k, e => rdT a r m (fun c m1 => if c = true then k true m1 else rdT b r m1 k e) e
  | .not a, r, m, k, e => rdT a r m (fun c m1 => k (!c) m1) e
  | .ex a, r, m, k, e => rdE a r m (fun x m1 => ∃ c, truD (look m1 x) = some c ∧ k c m1) e
  | .yes, _, m, k, _ => k true m
def rdO : Ox → Env → Mu → (Option Int → Mu → Prop) → XPost → Prop
  | .none, _, m, k, _ => k none m
  | .some a, r, m, k, e => rdE a r m (fun x m1 => ∃ i, x = .int i ∧ k (some i) m1) e
def rdA : Exs → Env → Mu → (List DV → Mu → Prop) → XPost → Prop
  | .nil, _, m, k, _ => k [] m
  | .cons a t, r, m, k, e => rdE a r m (fun x m1 => rdA t r m1 (fun ds m2 => k (x :: ds) m2) e) e
def rdI : Its → Env → Mu → (List DV → Mu → Prop) → XPost → Prop
  | .nil, _, m, k, _ => k [] m
  | .one a t, r, m, k, e => rdE a r m (fun x m1 => rdI t r m1 (fun ds m2 => k (x :: ds) m2) e) e
  | .star a t, r, m, k, e => rdE a r m (fun x m1 => ∃ xs, (look m1 x = .lst xs ∨ look m1 x = .tup xs) ∧ rdI t r m1 (fun ds m2 => k (xs ++ ds) m2) e) e
def rdW : It → Env → Mu → ((Mu → Prop) → List DV → Mu → Prop) → XPost → Prop
  | .seq a, r, m, k, e => rdE a r m (fun x m1 => ∃ xs, itemsD (look m1 x) = some xs ∧ (∀ s, look m1 x = .str s → s.length ≤ LINE) ∧ k (fun m2 => itemsD (look m2 x) = some xs) xs m1) e
  | .range1 a, r, m, k, e => rdE a r m (fun x m1 => ∃ n, x = .int n ∧ n < 2 ^ 60 ∧ -(2 ^ 60) < n ∧ k (fun _ => True) (rangeL 0 n.toNat 1) m1) e
  | .range2 a b, r, m, k, e => rdE a r m (fun x m1 => rdE b r m1 (fun y m2 => ∃ i n, x = .int i ∧ y = .int n ∧ (-(2 ^ 60) < i ∧ i < 2 ^ 60 ∧ -(2 ^ 60) < n ∧ n < 2 ^ 60) ∧ k (fun _ => True) (rangeL i (n - i).toNat 1) m2) e) e
  | .range3 a b s, r, m, k, e => rdE a r m (fun x m1 => rdE b r m1 (fun y m2 => ∃ i n, x = .int i ∧ y = .int n ∧ s = -1 ∧ (-(2 ^ 60) < i ∧ i < 2 ^ 60 ∧ -(2 ^ 60) < n ∧ n < 2 ^ 60) ∧ k (fun _ => True) (rangeL i (i - n).toNat (-1)) m2) e) e
  | .enum a, r, m, k, e => rdE a r m (fun x m1 => ∃ xs, (look m1 x = .lst xs ∨ look m1 x = .tup xs) ∧ k (fun m2 => look m2 x = look m1 x) (enumL xs) m1) e
  | .zip a b, r, m, k, e => rdE a r m (fun x m1 => rdE b r m1 (fun y m2 => ∃ xs ys, (look m2 x = .lst xs ∨ look m2 x = .tup xs) ∧ (look m2 y = .lst ys ∨ look m2 y = .tup ys) ∧ k (fun m3 => look m3 x = look m2 x ∧ look m3 y = look m2 y) (zipL xs ys) m2) e) e
end
/-! ### statements -/
/-- except C as n: return (..) or [..], of constants and n's field (none) -/
structure Hd where
  c : Nat
  i : Nat
  tup : Bool
  its : List (Option DV)
def Hd.val (h : Hd) (d : DV) : DV := if h.tup then .tup (h.its.map fun o => o.getD d) else .lst (h.its.map fun o => o.getD d)
structure Ends where
  nx : Env → Mu → Prop
  rt : Post
  bk : Env → Mu → Prop
  ct : Env → Mu → Prop
  ex : Exc → Env → Mu → Prop
mutual
inductive St where
  | set (p : Pat) (e : Ex)
  | par (i j : Nat) (a b : Ex)
  | aug (i : Nat) (op : BOp) (e : Ex)
  | sub (o i e : Ex)
  | saug (o i : Ex) (op : BOp) (e : Ex)
  | exp (e : Ex)
  | ret (e : Ex) | retN
  | ifs (t : Ts) (a b : Sts)
  | fr (p : Pat) (it : It) (b : Sts)
  | whl (t : Ts) (b : Sts)
  | rse (c : Nat) (e : Ex)
  | pass | brk | cont
  | fld (o : Ex) (i c : Nat) (f : S) (e : Ex)
  | tryR (b : Sts) (hs : List Hd) (es : List Nat)
  | whw (i : Nat) (e : Ex) (b : Sts)
inductive Sts where
  | nil | cons (s : St) (r : Sts)
end
/-- a for over items -/
def forW (p : Pat) (src : Mu → Prop) (body : Ends → Env → Mu → Prop) (D : Ends) : List DV → Env → Mu → Prop
  | [], r, m => src m ∧ D.nx r m
  | x :: t, r, m => src m ∧ bindP p x r m fun r1 => body { D with nx := forW p src body D t, ct := forW p src body D t, bk := D.nx } r1 m
def whlW (G : Nat → Option Fn) (t : Ts) (body : Ends → Env → Mu → Prop) (D : Ends) : Nat → Env → Mu → Prop
  | 0, _, _ => False
  | n + 1, r, m => rdT G t r m (fun c m1 => if c = true then body { D with nx := whlW G t body D n, ct := whlW G t body D n, bk := D.nx } r m1 else D.nx r m1) (fun x m => D.ex x r m)
/-- x op= y: the new value, what may change meanwhile -/
def augD (op : BOp) (x y : DV) (m : Mu) (k : DV → Mu → Prop) : Prop :=
  match op, x with
  | .add, .int i => (match y with
    | .int j => k (.int (i + j)) m
    | _ => False)
  | .sub, .int i => (match y with
    | .int j => k (.int (i - j)) m
    | _ => False)
  | .add, .loc a => ∃ xs zs, m a = some (.lst xs) ∧ look m y = .lst zs ∧ xs.length + zs.length ≤ LINE ∧ k (.loc a) (m.put a (.lst (xs ++ zs)))
  | _, _ => False
def setD (x : DV) (i v : DV) (m : Mu) (k : Mu → Prop) : Prop :=
  match x, i with
  | .loc a, .int i => ∃ xs j, m a = some (.lst xs) ∧ idx xs.length i = some j ∧ k (m.put a (.lst (xs.set j v)))
  | _, _ => False
/-- x.f = v -/
def putF (f : S) (v : DV) : List (S × DV) → List (S × DV)
  | [] => [(f, v)]
  | (g, w) :: r => if g = f then (f, v) :: r else (g, w) :: putF f v r
def fldD (c : Nat) (x : DV) (f : S) (v : DV) (m : Mu) (k : Mu → Prop) : Prop :=
  match x with
  | .loc a => ∃ fs, m a = some (.ins c fs) ∧ fs.length < 100 ∧ k (m.put a (.ins c (putF f v fs)))
  | _ => False
/-- while (x := e) is not None -/
def whwW (G : Nat → Option Fn) (i : Nat) (a : Ex) (body : Ends → Env → Mu → Prop) (D : Ends) : Nat → Env → Mu → Prop
  | 0, _, _ => False
  | n + 1, r, m => i < r.length ∧ rdE G a r m (fun d m1 => if isNonD d = true then D.nx (r.set i (some d)) m1 else body { D with nx := whwW G i a body D n, ct := whwW G i a body D n, bk := D.nx } (r.set i (some d)) m1) (fun x m => D.ex x r m)
/-- the item of a list that may change -/
def getD (x y : DV) (m : Mu) (k : DV → Prop) : Prop :=
  match y with
  | .int i => 0 ≤ i ∧ ∃ xs u, look m x = .lst xs ∧ xs[i.toNat]? = some u ∧ k u
  | _ => False
mutual
def rdS : St → Ends → Env → Mu → Prop
  | .set p a, D, r, m => rdE G a r m (fun d m1 => bindP p d r m1 fun r1 => D.nx r1 m1) (fun x m => D.ex x r m)
  | .par i j a b, D, r, m => rdE G a r m (fun x m1 => rdE G b r m1 (fun y m2 => (i < r.length ∧ j < r.length) ∧ D.nx ((r.set i (some x)).set j (some y)) m2) (fun x m => D.ex x r m)) (fun x m => D.ex x r m)
  | .aug i op a, D, r, m => ∃ x, r[i]? = some (some x) ∧ rdE G a r m (fun y m1 => augD op x y m1 fun z m2 => D.nx (r.set i (some z)) m2) (fun x m => D.ex x r m)
  | .sub o i a, D, r, m => rdE G a r m (fun v m1 => rdE G o r m1 (fun x m2 => rdE G i r m2 (fun y m3 => setD x y v m3 fun m4 => D.nx r m4) (fun x m => D.ex x r m)) (fun x m => D.ex x r m)) (fun x m => D.ex x r m)
  | .saug o i op a, D, r, m => rdE G o r m (fun x m1 => rdE G i r m1 (fun y m2 => getD x y m2 fun u => rdE G a r m2 (fun v m3 => augD op u v m3 fun z m4 => setD x y z m4 fun m5 => D.nx r m5) (fun x m => D.ex x r m)) (fun x m => D.ex x r m)) (fun x m => D.ex x r m)
  | .exp a, D, r, m => rdE G a r m (fun _ m1 => D.nx r m1) (fun x m => D.ex x r m)
  | .ret a, D, r, m => rdE G a r m D.rt (fun x m => D.ex x r m)
  | .retN, D, _, m => D.rt .non m
  | .ifs t a b, D, r, m => rdT G t r m (fun c m1 => if c = true then rdSs a D r m1 else rdSs b D r m1) (fun x m => D.ex x r m)
  | .fr p it b, D, r, m => rdW G it r m (fun src xs m1 => forW p src (fun D' => rdSs b D') D xs r m1) (fun x m => D.ex x r m)
  | .whl t b, D, r, m => ∃ n, whlW G t (fun D' => rdSs b D') D n r m
  | .rse c a, D, r, m => rdE G a r m (fun d m1 => D.ex ⟨c, d⟩ r m1) (fun x m => D.ex x r m)
  | .fld o _ c f a, D, r, m => rdE G a r m (fun v m1 => rdE G o r m1 (fun x m2 => fldD c x f v m2 fun m3 => D.nx r m3) (fun x m => D.ex x r m)) (fun x m => D.ex x r m)
  | .tryR b hs es, D, r, m => rdSs b { D with ex := fun x r1 m1 => (x.cls ∈ es ∧ hs.all (fun h => decide (h.i < r1.length)) = true) ∧ match hs.find? fun h => h.c == x.cls with
      | some h => D.rt (h.val x.arg) m1
      | none => D.ex x r1 m1 } r m
  | .whw i a b, D, r, m => ∃ n, whwW G i a (fun D' => rdSs b D') D n r m
  | .pass, D, r, m => D.nx r m
  | .brk, D, r, m => D.bk r m
  | .cont, D, r, m => D.ct r m
def rdSs : Sts → Ends → Env → Mu → Prop
  | .nil, D, r, m => D.nx r m
  | .cons s t, D, r, m => rdS s { D with nx := fun r1 m1 => rdSs t D r1 m1 } r m
end
/-- a def's body -/
def rdF (n : Nat) (b : Sts) (ds : List DV) (m : Mu) (k : Post) (e : XPost) : Prop :=
  rdSs G b { nx := fun _ m1 => k .non m1, rt := k, bk := fun _ _ => False, ct := fun _ _ => False, ex := fun x _ m => e x m } (ds.map some ++ List.replicate (n - ds.length) none) m
end
end DL

set_option Elab.async false
set_option linter.all false
set_option maxRecDepth 100000
set_option maxHeartbeats 2000000
/-! DLS1: how data stand in the abstract heap, and the lifted readings -/
namespace DL
open PySem L2
/-- the classes whose things are data, by their codes -/
def insName : Nat → PySem.Str
  | 0 => "Shape"
  | 1 => "Verdict"
  | 2 => "Book"
  | _ => ""
/-- the errors' names and fields, by their codes -/
def errName : Nat → PySem.Str
  | 0 => "BadName" | 1 => "DuplicateName" | 2 => "UnknownName" | 3 => "BadCount" | 4 => "BadSet" | 5 => "BadRow" | 6 => "BadText" | 7 => "BadNumber" | 8 => "BadFactors" | 9 => "BadSteps"
  | 10 => "BadSum" | 11 => "Reached" | 12 => "NotReached" | 13 => "IsRead" | 14 => "NotMixed" | 15 => "NoPairing" | 16 => "SumFollows" | 17 => "SumNever" | 18 => "UnlikeUnknowns" | _ => "NothingToUndo"
def errField : Nat → PySem.Str
  | 0 => "name" | 1 => "name" | 2 => "name" | 3 => "count" | 4 => "value" | 5 => "value" | 6 => "text" | 7 => "value" | 8 => "value" | 9 => "value"
  | 10 => "value" | 11 => "name" | 12 => "name" | 13 => "name" | 14 => "name" | 15 => "value" | 16 => "value" | 17 => "value" | 18 => "names" | _ => ""
def cad (K : PySem.W.Frag) (c : Nat) : Addr := He.ga K (insName c)
def keyD : Key → DK
  | .inl i => .inl i
  | .inr x => .inr x.cps.toList
/-! v is d, in the frozen part F -/
mutual
inductive RelD (K : PySem.W.Frag) (F : Hp) : V → DV → Prop
  | non : RelD K F .non .non
  | bl (b : Bool) : RelD K F (.bl b) (.bl b)
  | int (i : Int) : RelD K F (.int i) (.int i)
  | str (x : PySem.Str) : (∀ c ∈ x.cps.toList, c < 0x110000) → RelD K F (.str x) (.str x.cps.toList)
  | tup {a : Addr} {xs : List V} {ds : List DV} : F a = some (.tup xs) → RelDs K F xs ds → xs.length ≤ LINE → RelD K F (.ref a) (.tup ds)
  | lst {a : Addr} {xs : List V} {ds : List DV} : F a = some (.lst xs) → RelDs K F xs ds → xs.length ≤ LINE → RelD K F (.ref a) (.lst ds)
  | dic {a : Addr} {xs : List (Key × V)} {ds : List (DK × DV)} : Rd F a (.dK xs) → RelKs K F xs ds → RelD K F (.ref a) (.dic ds)
  | dit {a : Addr} {xs : List (List Key × V)} {ds : List (List DK × DV)} : Rd F a (.dT xs) → RelTs K F xs ds → RelD K F (.ref a) (.dit ds)
  | ins {a dx : Addr} {c : Nat} {xs : List (PySem.Str × V)} {ds : List (S × DV)} : F a = some (.ins (cad K c) dx xs) → RelFs K F xs ds → RelD K F (.ref a) (.ins c ds)
  | loc (a : Addr) : RelD K F (.ref a) (.loc a)
  | scr {a : Addr} {ns : List Int} : SqL K F a (ns.map V.int) → ns.length ≤ LINE → RelD K F (.ref a) (.scr ns)
inductive RelDs (K : PySem.W.Frag) (F : Hp) : List V → List DV → Prop
  | nil : RelDs K F [] []
  | cons {v : V} {vs : List V} {d : DV} {ds : List DV} : RelD K F v d → RelDs K F vs ds → RelDs K F (v :: vs) (d :: ds)
inductive RelKs (K : PySem.W.Frag) (F : Hp) : List (Key × V) → List (DK × DV) → Prop
  | nil : RelKs K F [] []
  | cons {k : Key} {v : V} {vs : List (Key × V)} {d : DV} {ds : List (DK × DV)} : RelD K F v d → RelKs K F vs ds → RelKs K F ((k, v) :: vs) ((keyD k, d) :: ds)
inductive RelTs (K : PySem.W.Frag) (F : Hp) : List (List Key × V) → List (List DK × DV) → Prop
  | nil : RelTs K F [] []
  | cons {k : List Key} {v : V} {vs : List (List Key × V)} {d : DV} {ds : List (List DK × DV)} : RelD K F v d → RelTs K F vs ds → RelTs K F ((k, v) :: vs) ((k.map keyD, d) :: ds)
inductive RelFs (K : PySem.W.Frag) (F : Hp) : List (PySem.Str × V) → List (S × DV) → Prop
  | nil : RelFs K F [] []
  | cons {k : PySem.Str} {v : V} {vs : List (PySem.Str × V)} {d : DV} {ds : List (S × DV)} : RelD K F v d → RelFs K F vs ds → RelFs K F ((k, v) :: vs) ((k.cps.toList, d) :: ds)
end
theorem Rd.same {F F' : Hp} {a : Addr} {u : HO} (e : Same F F') (h : Rd F a u) : Rd F' a u := by
  rcases h with h | ⟨o, h⟩
  · exact .inl (e _ _ h)
  · exact .inr ⟨o, e _ _ h⟩
section
variable {K : PySem.W.Frag} {F F' : Hp}
mutual
theorem RelD.mono (e : Same F F') : ∀ {v : V} {d : DV}, RelD K F v d → RelD K F' v d
  | _, _, .non => .non
  | _, _, .bl b => .bl b
  | _, _, .int i => .int i
  | _, _, .str x h => .str x h
  | _, _, .tup h r l => .tup (e _ _ h) (RelDs.mono e r) l
  | _, _, .lst h r l => .lst (e _ _ h) (RelDs.mono e r) l
  | _, _, .dic h r => .dic (Rd.same e h) (RelKs.mono e r)
  | _, _, .dit h r => .dit (Rd.same e h) (RelTs.mono e r)
  | _, _, .ins h r => .ins (e _ _ h) (RelFs.mono e r)
  | _, _, .loc a => .loc a
  | _, _, .scr h l => .scr (Same.seq e h) l
theorem RelDs.mono (e : Same F F') : ∀ {v : List V} {d : List DV}, RelDs K F v d → RelDs K F' v d
  | _, _, .nil => .nil
  | _, _, .cons a b => .cons (RelD.mono e a) (RelDs.mono e b)
theorem RelKs.mono (e : Same F F') : ∀ {v : List (Key × V)} {d : List (DK × DV)}, RelKs K F v d → RelKs K F' v d
  | _, _, .nil => .nil
  | _, _, .cons a b => .cons (RelD.mono e a) (RelKs.mono e b)
theorem RelTs.mono (e : Same F F') : ∀ {v : List (List Key × V)} {d : List (List DK × DV)}, RelTs K F v d → RelTs K F' v d
  | _, _, .nil => .nil
  | _, _, .cons a b => .cons (RelD.mono e a) (RelTs.mono e b)
theorem RelFs.mono (e : Same F F') : ∀ {v : List (PySem.Str × V)} {d : List (S × DV)}, RelFs K F v d → RelFs K F' v d
  | _, _, .nil => .nil
  | _, _, .cons a b => .cons (RelD.mono e a) (RelFs.mono e b)
end
/-! what holds no list and no dict does without them -/
mutual
theorem RelD.less (e : ∀ b xs, F b = some (.tup xs) → F' b = some (.tup xs)) : ∀ {v : V} {d : DV}, RelD K F v d → noMut d = true → RelD K F' v d
  | _, _, .non, _ => .non
  | _, _, .bl b, _ => .bl b
  | _, _, .int i, _ => .int i
  | _, _, .str x h, _ => .str x h
  | _, _, .tup h r l, n => .tup (e _ _ h) (RelDs.less e r (by simpa [noMut] using n)) l
  | _, _, .lst h r l, n => by simp [noMut] at n
  | _, _, .dic h r, n => by simp [noMut] at n
  | _, _, .dit h r, n => by simp [noMut] at n
  | _, _, .ins h r, n => by simp [noMut] at n
  | _, _, .loc a, n => by simp [noMut] at n
  | _, _, .scr _ _, n => by simp [noMut] at n
theorem RelDs.less (e : ∀ b xs, F b = some (.tup xs) → F' b = some (.tup xs)) : ∀ {v : List V} {d : List DV}, RelDs K F v d → noMuts d = true → RelDs K F' v d
  | _, _, .nil, _ => .nil
  | _, _, .cons a b, n => by
    simp only [noMuts, Bool.and_eq_true] at n
    exact .cons (RelD.less e a n.1) (RelDs.less e b n.2)
end
theorem RelDs.length : ∀ {v : List V} {d : List DV}, RelDs K F v d → v.length = d.length
  | _, _, .nil => rfl
  | _, _, .cons _ b => by rw [List.length_cons, List.length_cons, RelDs.length b]
theorem RelDs.get : ∀ {v : List V} {d : List DV} {i : Nat} {x : DV}, RelDs K F v d → d[i]? = some x → ∃ y, v[i]? = some y ∧ RelD K F y x
  | _, _, _, _, .nil, h => by simp at h
  | _, _, 0, _, .cons a _, h => by
    simp at h
    subst h
    exact ⟨_, rfl, a⟩
  | _, _, i + 1, x, .cons _ b, h => by
    obtain ⟨y, h1, h2⟩ := RelDs.get (i := i) (x := x) b (by simpa using h)
    exact ⟨y, by simpa using h1, h2⟩
theorem RelDs.getV : ∀ {v : List V} {d : List DV} {i : Nat} {y : V}, RelDs K F v d → v[i]? = some y → ∃ x, d[i]? = some x ∧ RelD K F y x
  | _, _, _, _, .nil, h => by simp at h
  | _, _, 0, _, .cons a _, h => by
    simp at h
    subst h
    exact ⟨_, rfl, a⟩
  | _, _, i + 1, x, .cons _ b, h => by
    obtain ⟨y, h1, h2⟩ := RelDs.getV (i := i) (y := x) b (by simpa using h)
    exact ⟨y, by simpa using h1, h2⟩
theorem RelDs.append : ∀ {v w : List V} {d e : List DV}, RelDs K F v d → RelDs K F w e → RelDs K F (v ++ w) (d ++ e)
  | _, _, _, _, .nil, s => s
  | _, _, _, _, .cons r t, s => .cons r (RelDs.append t s)
theorem RelDs.set {x : V} {y : DV} (r : RelD K F x y) : ∀ {v : List V} {d : List DV} (i : Nat), RelDs K F v d → RelDs K F (v.set i x) (d.set i y)
  | _, _, _, .nil => .nil
  | _, _, 0, .cons _ t => .cons r t
  | _, _, i + 1, .cons q t => .cons q (RelDs.set r i t)
theorem RelDs.take : ∀ {v : List V} {d : List DV} (n : Nat), RelDs K F v d → RelDs K F (v.take n) (d.take n)
  | _, _, 0, _ => .nil
  | _, _, _ + 1, .nil => .nil
  | _, _, n + 1, .cons r t => .cons r (RelDs.take n t)
theorem RelDs.drop : ∀ {v : List V} {d : List DV} (n : Nat), RelDs K F v d → RelDs K F (v.drop n) (d.drop n)
  | _, _, 0, r => r
  | _, _, _ + 1, .nil => .nil
  | _, _, n + 1, .cons _ t => RelDs.drop n t
theorem RelDs.eraseIdx : ∀ {v : List V} {d : List DV} (i : Nat), RelDs K F v d → RelDs K F (v.eraseIdx i) (d.eraseIdx i)
  | _, _, _, .nil => .nil
  | _, _, 0, .cons _ t => t
  | _, _, i + 1, .cons q t => .cons q (RelDs.eraseIdx i t)
theorem RelDs.reverse : ∀ {v : List V} {d : List DV}, RelDs K F v d → RelDs K F v.reverse d.reverse
  | _, _, .nil => .nil
  | _, _, .cons q t => by
    rw [List.reverse_cons, List.reverse_cons]
    exact RelDs.append (RelDs.reverse t) (.cons q .nil)
end
/-- F's things stand in H -/
abbrev Sub (F H : Hp) : Prop := Same F H
def ObjR (K : PySem.W.Frag) (F H : Hp) (p : Addr) : DO → Prop
  | .lst ds => ∃ vs, H p = some (.lst vs) ∧ RelDs K F vs ds ∧ vs.length ≤ LINE
  | .dic ds => ∃ vs, H p = some (.dK vs) ∧ RelKs K F vs ds
  | .dit ds => ∃ vs, H p = some (.dT vs) ∧ RelTs K F vs ds
  | .ins c ds => ∃ dx vs, H p = some (.ins (cad K c) dx vs) ∧ RelFs K F vs ds
  | .st => False
/-- the state: what is frozen (F), what must stay as it is beside (Z), what may change (m) -/
structure Wf (K : PySem.W.Frag) (Z F H : Hp) (m : Mu) : Prop where
  sf : Sub F H
  sz : Sub Z H
  ob : ∀ p o, m p = some o → F p = none ∧ Z p = none ∧ ObjR K F H p o
/-- only new things are frozen -/
structure Ext (Z F F' : Hp) : Prop where
  sm : Same F F'
  new : ∀ b o, F' b = some o → F b = some o ∨ Z b = none
theorem Ext.refl (Z F : Hp) : Ext Z F F := ⟨fun _ _ h => h, fun _ _ h => .inl h⟩
theorem Ext.trans {Z F F1 F2 : Hp} (a : Ext Z F F1) (b : Ext Z F1 F2) : Ext Z F F2 := ⟨fun x o h => b.sm x o (a.sm x o h), fun x o h => by
  rcases b.new x o h with z | z
  · exact a.new x o z
  · exact .inr z⟩
theorem sub_none {F H : Hp} (h : Same F H) {p : Addr} (hp : H p = none) : F p = none := by
  cases e : F p with
  | none => rfl
  | some o =>
    have z := h p o e
    rw [hp] at z; cases z
theorem Same.rfl' {F : Hp} : Same F F := fun _ _ h => h
theorem same_put {F : Hp} {p : Addr} {o : HO} (h : F p = none) : Same F (upd F p o) := fun b x e => by
  rw [upd_ne (ne_of_none e h)]
  exact e
theorem ObjR.mono {K : PySem.W.Frag} {F F' H H' : Hp} {p : Addr} {o : DO} (e : Same F F') (hp : ∀ u, H p = some u → H' p = some u) (h : ObjR K F H p o) : ObjR K F' H' p o := by
  cases o with
  | lst ds => obtain ⟨vs, a, b, c⟩ := h; exact ⟨vs, hp _ a, b.mono e, c⟩
  | dic ds => obtain ⟨vs, a, b⟩ := h; exact ⟨vs, hp _ a, b.mono e⟩
  | dit ds => obtain ⟨vs, a, b⟩ := h; exact ⟨vs, hp _ a, b.mono e⟩
  | ins c ds => obtain ⟨dx, vs, a, b⟩ := h; exact ⟨dx, vs, hp _ a, b.mono e⟩
  | st => exact h
theorem ObjR.some {K : PySem.W.Frag} {F H : Hp} {p : Addr} {o : DO} (h : ObjR K F H p o) : ∃ u, H p = some u := by
  cases o with
  | lst ds => obtain ⟨vs, a, b⟩ := h; exact ⟨_, a⟩
  | dic ds => obtain ⟨vs, a, b⟩ := h; exact ⟨_, a⟩
  | dit ds => obtain ⟨vs, a, b⟩ := h; exact ⟨_, a⟩
  | ins c ds => obtain ⟨dx, vs, a, b⟩ := h; exact ⟨_, a⟩
  | st => exact h.elim
section
variable {K : PySem.W.Frag} {Z F H : Hp} {m : Mu} {p : Addr}
/-- a new thing, frozen at once -/
theorem Wf.new (w : Wf K Z F H m) (hp : H p = none) (o : HO) : Wf K Z (upd F p o) (upd H p o) m ∧ Ext Z F (upd F p o) := by
  have hf : F p = none := sub_none w.sf hp
  have hz : Z p = none := sub_none w.sz hp
  refine ⟨⟨fun b u e => ?_, fun b u e => ?_, fun q u e => ?_⟩, same_put hf, fun b u e => ?_⟩
  · by_cases hb : b = p
    · subst hb; rw [upd_same] at e ⊢; exact e
    · rw [upd_ne hb] at e ⊢; exact w.sf b u e
  · have hb : b ≠ p := ne_of_none e hz
    rw [upd_ne hb]; exact w.sz b u e
  · obtain ⟨a1, a2, a3⟩ := w.ob q u e
    obtain ⟨x, hx⟩ := a3.some
    have hq : q ≠ p := ne_of_none hx hp
    exact ⟨by rw [upd_ne hq]; exact a1, a2, a3.mono (same_put hf) fun u hu => by rw [upd_ne hq]; exact hu⟩
  · by_cases hb : b = p
    · subst hb; exact .inr hz
    · rw [upd_ne hb] at e; exact .inl e
/-- a new thing that may change -/
theorem Wf.own (w : Wf K Z F H m) (hp : H p = none) {o : HO} {u : DO} (r : ObjR K F (upd H p o) p u) : Wf K Z F (upd H p o) (m.put p u) ∧ m p = none := by
  have hf : F p = none := sub_none w.sf hp
  have hz : Z p = none := sub_none w.sz hp
  refine ⟨⟨fun b u e => ?_, fun b u e => ?_, fun q v e => ?_⟩, ?_⟩
  · have hb : b ≠ p := ne_of_none e hf
    rw [upd_ne hb]; exact w.sf b u e
  · have hb : b ≠ p := ne_of_none e hz
    rw [upd_ne hb]; exact w.sz b u e
  · unfold Mu.put at e
    by_cases hq : q = p
    · subst hq
      rw [if_pos rfl] at e
      cases e
      exact ⟨hf, hz, r⟩
    · rw [if_neg hq] at e
      obtain ⟨a1, a2, a3⟩ := w.ob q v e
      exact ⟨a1, a2, a3.mono (fun _ _ h => h) fun u hu => by rw [upd_ne hq]; exact hu⟩
  · cases e : m p with
    | none => rfl
    | some o =>
      obtain ⟨x, hx⟩ := (w.ob p o e).2.2.some
      rw [hp] at hx; cases hx
/-- what may change is changed -/
theorem Wf.set (w : Wf K Z F H m) {o : HO} {u u0 : DO} (h0 : m p = some u0) (r : ObjR K F (upd H p o) p u) : Wf K Z F (upd H p o) (m.put p u) := by
  obtain ⟨hf, hz, _⟩ := w.ob p u0 h0
  refine ⟨fun b u e => ?_, fun b u e => ?_, fun q v e => ?_⟩
  · have hb : b ≠ p := ne_of_none e hf
    rw [upd_ne hb]; exact w.sf b u e
  · have hb : b ≠ p := ne_of_none e hz
    rw [upd_ne hb]; exact w.sz b u e
  · unfold Mu.put at e
    by_cases hq : q = p
    · subst hq
      rw [if_pos rfl] at e
      cases e
      exact ⟨hf, hz, r⟩
    · rw [if_neg hq] at e
      obtain ⟨a1, a2, a3⟩ := w.ob q v e
      exact ⟨a1, a2, a3.mono (fun _ _ h => h) fun u hu => by rw [upd_ne hq]; exact hu⟩
end
/-- the slots hold the data -/
structure Slots (K : PySem.W.Frag) (F : Hp) (σ : L2.St) (r : Env) : Prop where
  len : σ.length = r.length
  at_ : ∀ (i : Nat) (d : DV), r[i]? = some (some d) → ∃ v, σ[i]? = some (some v) ∧ RelD K F v d
theorem Slots.mono {K : PySem.W.Frag} {F F' : Hp} {σ : L2.St} {r : Env} (e : Same F F') (h : Slots K F σ r) : Slots K F' σ r :=
  ⟨h.len, fun i d q => let ⟨v, a, b⟩ := h.at_ i d q; ⟨v, a, b.mono e⟩⟩
theorem Slots.set {K : PySem.W.Frag} {F : Hp} {σ : L2.St} {r : Env} {v : V} {d : DV} (h : Slots K F σ r) (i : Nat) (e : RelD K F v d) : Slots K F (σ.set i (some v)) (r.set i (some d)) := by
  refine ⟨by rw [List.length_set, List.length_set]; exact h.len, fun j d' q => ?_⟩
  by_cases hj : i = j
  · subst hj
    by_cases hi : i < r.length
    · rw [List.getElem?_set_self hi] at q
      cases q
      exact ⟨v, by rw [List.getElem?_set_self (by rw [h.len]; exact hi)], e⟩
    · rw [List.getElem?_eq_none (by rw [List.length_set]; omega)] at q
      cases q
  · rw [List.getElem?_set_ne hj] at q
    obtain ⟨v', a, b⟩ := h.at_ j d' q
    exact ⟨v', by rw [List.getElem?_set_ne hj]; exact a, b⟩
theorem Slots.del {K : PySem.W.Frag} {F : Hp} {σ : L2.St} {r : Env} (h : Slots K F σ r) (i : Nat) : Slots K F (σ.set i none) (r.set i none) := by
  refine ⟨by rw [List.length_set, List.length_set]; exact h.len, fun j d' q => ?_⟩
  by_cases hj : i = j
  · subst hj
    by_cases hi : i < r.length
    · rw [List.getElem?_set_self hi] at q
      cases q
    · rw [List.getElem?_eq_none (by rw [List.length_set]; omega)] at q
      cases q
  · rw [List.getElem?_set_ne hj] at q
    obtain ⟨v', a, b⟩ := h.at_ j d' q
    exact ⟨v', by rw [List.getElem?_set_ne hj]; exact a, b⟩
end DL

set_option Elab.async false
set_option linter.all false
set_option maxRecDepth 100000
set_option maxHeartbeats 2000000
namespace DL
open PySem L2
/-- an error in the air: its class, its own dict -/
def ExcR (K : PySem.W.Frag) (fld : Nat → Addr × PySem.Str) (Z F H : Hp) (m : Mu) (x : Exc) (cls : Value) (d : Option Addr) : Prop :=
  cls = .ref (fld x.cls).1 ∧ ∃ dx v, d = some dx ∧ H dx = some (.xd [((fld x.cls).2, v)]) ∧ F dx = none ∧ Z dx = none ∧ m dx = none ∧ RelD K F v x.arg
/-- a class's thing: 0 a property, 1 a method, 2 the class called; the class's code; its name -/
structure Mt where
  kind : Nat
  cls : Nat
  name : PySem.Str
/-- what is read off the text: the slots' names, the defs' names by number, constants of the module -/
structure Cfg where
  N : List PySem.Str
  fns : List (Nat × PySem.Str × List PySem.Str)
  gls : List (PySem.Str × DV)
  mts : List (Nat × Mt) := []
  exs : List Nat := []
/-- a def's promise, lifted -/
def Rels (K : PySem.W.Frag) (F : Hp) : List V → List DV → Prop := RelDs K F
def spG (K : PySem.W.Frag) (fld : Nat → Addr × PySem.Str) (s : FSp) : Sp := fun vs H Q E => ∃ ds m Z F Qd Ed, Wf K Z F H m ∧ RelDs K F vs ds ∧ s ds m Qd Ed ∧
  (∀ d m' v H' F', Qd d m' → Ext Z F F' → Wf K Z F' H' m' → RelD K F' v d → Q v H') ∧
  (∀ x m' H' F' cls dd, Ed x m' → Ext Z F F' → Wf K Z F' H' m' → ExcR K fld Z F' H' m' x cls dd → E cls dd H')
def spP (K : PySem.W.Frag) (fld : Nat → Addr × PySem.Str) (s : PSp) : Sp := fun vs H Q E => ∃ ds F Qd Ed, Sub F H ∧ RelDs K F vs ds ∧ s ds Qd Ed ∧
  (∀ d v H' F', Qd d → Ext H F F' → Sub F' H' → Sub H H' → RelD K F' v d → Q v H') ∧
  (∀ x H' F' cls dd, Ed x → Ext H F F' → Sub F' H' → Sub H H' → ExcR K fld H F' H' Mu.nil x cls dd → E cls dd H')
def spOf (K : PySem.W.Frag) (fld : Nat → Addr × PySem.Str) : Fn → Sp
  | .pure s => spP K fld s
  | .gen s => spG K fld s
def bltName : Blt → PySem.Str
  | .len => "len" | .abs => "abs" | .int => "int" | .list => "list" | .tuple => "tuple" | .sorted => "sorted" | .any => "any" | .all => "all" | .sum => "sum" | .max2 => "max" | .min2 => "min" | .str => "str"
def bltNames : List PySem.Str := ["len", "abs", "int", "list", "tuple", "sorted", "any", "all", "sum", "max", "min", "str", "range", "enumerate", "zip", "isinstance", "bool", "dict", "reversed", "repr"]
/-- a def by its name; called by place, or by keywords in the order told -/
def FnEx (P : Program) (w : World) (K : PySem.W.Frag) (mg : PySem.Str → Option Value) (base : Heap) (fld : Nat → Addr × PySem.Str) (k : Nat) (x : PySem.Str × List PySem.Str) (f : Fn) : Prop :=
  ∃ a fd ps sp, mg x.1 = some (.ref a) ∧ PySem.W.keepIn K (.ref a) = true ∧ FnOk P w K mg base (L2.CX P w) k a fd ps sp ∧
    ((x.2 = [] ∧ sp = spOf K fld f ∧ Binds K fd ps []) ∨
      (x.2 ≠ [] ∧ ∃ g gV, KBn K fd ps 0 x.2 g gV ∧ ∀ vs H Q E, spOf K fld f vs H Q E → vs.length = x.2.length ∧ sp (gV [] vs) H Q E))
/-- what an error's __init__ does -/
def spXI (K : PySem.W.Frag) (f : PySem.Str) : Sp := fun vs H Q _ => ∃ (a C : Addr) (v : V), vs = [.ref a, v] ∧ OexC K C ∧ PySem.W.findIn K (.ref C) f = some none ∧ H a = some (exo a C none) ∧
  ∀ dx, H dx = none → dx ≠ a → Q .non (upd (upd H dx (exd dx [(f, v)])) a (exo a C (some dx)))
/-- an error's class, as the module has it: made by its own __init__; its field is read; its instances are known by the except clauses of the errors told -/
structure ErrT (P : Program) (w : World) (K : PySem.W.Frag) (mg : PySem.Str → Option Value) (base : Heap) (fld : Nat → Addr × PySem.Str) (x : PySem.Str) (c : Nat) : Prop where
  gl : mg x = some (.ref (fld c).1)
  T : OexC K (fld c).1
  no : PySem.W.findIn K (.ref (fld c).1) (fld c).2 = some none
  xf : XfC K (fld c).1
  ex : ∃ fI fd y, PySem.W.findIn K (.ref (fld c).1) "__init__" = some (some (.ref fI)) ∧ PySem.W.typeIn K (.ref fI) = some (.type "function") ∧ FnOk P w K mg base (L2.CX P w) 1 fI fd ["self", y] (spXI K (fld c).2) ∧ Binds K fd ["self", y] []
/-- a class's thing in the table -/
def MtEx (P : Program) (w : World) (K : PySem.W.Frag) (mg : PySem.Str → Option Value) (base : Heap) (fld : Nat → Addr × PySem.Str) (k : Nat) (x : Mt) (f : Fn) : Prop :=
  Cls K (cad K x.cls) ∧
  match x.kind with
  | 0 => ∃ p g fd q j, PropOf K (cad K x.cls) x.name p g ∧ FnOk P w K mg base (L2.CX P w) j g fd [q] (spOf K fld f) ∧ j + 1 ≤ k ∧ Binds K fd [q] []
  | 1 => ∃ a fd ps, Meth K (cad K x.cls) x.name a ∧ FnOk P w K mg base (L2.CX P w) k a fd ps (spOf K fld f) ∧ Binds K fd ps []
  | 2 => ∃ a fd ps s j s', Mk K (cad K x.cls) a ∧ mg x.name = some (.ref (cad K x.cls)) ∧ FnOk P w K mg base (L2.CX P w) j a fd ps (spG K fld s) ∧ j + 1 ≤ k ∧ Binds K fd ps [] ∧ f = .gen s' ∧
      ∀ ds m kk e, s' ds m kk e → ∀ a, m a = none → s (.loc a :: ds) (m.put a (.ins x.cls [])) (fun d m' => d = .non ∧ kk (.loc a) m') e
  | _ => NoAttr K (cad K x.cls) x.name
/-- one def in the table -/
structure FnAt (X : Cx) (fld : Nat → Addr × PySem.Str) (k : Nat) (x : PySem.Str × List PySem.Str) (f : Fn) : Prop where
  ex : FnEx X.prog X.w X.K X.mg X.base fld k x f
/-- where one stands -/
structure Gk (X : Cx) (c : Cfg) (G : Nat → Option Fn) (fld : Nat → Addr × PySem.Str) (k : Nat) : Prop where
  N : X.N = c.N
  nd : X.N.Nodup
  calm : X.calm = true
  room1 : Room (k + 1) X.A
  fns : ∀ f x g, (c.fns.lookup f) = some x → G f = some g → FnAt X fld k x g
  blt : ∀ x ∈ bltNames, X.mg x = none
  mts : ∀ i x, (c.mts.lookup i) = some x → ∃ g, (x.kind < 3 → G (MT + i) = some g) ∧ MtEx X.prog X.w X.K X.mg X.base fld k x g
  exs : ∀ e, e ∈ c.exs → 2 ≤ k ∧ ErrT X.prog X.w X.K X.mg X.base fld (errName e) e
  exm : ∀ e e', e ∈ c.exs → e' ∈ c.exs → PySem.W.exmOne X.K (.ref (fld e).1) (.ref (fld e').1) = some (e == e')
  efl : ∀ e, (fld e).2 = errField e
theorem Gk.room {X : Cx} {c : Cfg} {G : Nat → Option Fn} {fld : Nat → Addr × PySem.Str} {k : Nat} (g : Gk X c G fld k) : Room k X.A := g.room1.mono (Nat.le_succ k)
section
variable (K : PySem.W.Frag) (G : Nat → Option Fn) (fld : Nat → Addr × PySem.Str)
/-- the wish of an error, lifted -/
def XOk (W : WX) (Z F : Hp) (σ : L2.St) (Ed : XPost) : Prop :=
  ∀ x m' H' F' cls dd, Ed x m' → Ext Z F F' → Wf K Z F' H' m' → ExcR K fld Z F' H' m' x cls dd → W cls dd σ H'
/-- readings that are lifted from what the small language says -/
def lift {α : Type} (W : WX) (rd : Env → Mu → (α → Mu → Prop) → XPost → Prop) (post : Hp → Hp → Mu → α → β → Prop) : L2.St → Hp → (β → Hp → Prop) → Prop := fun σ H Q =>
  ∃ r m Z F Qd Ed, Wf K Z F H m ∧ Slots K F σ r ∧ rd r m Qd Ed ∧
    (∀ d m' v H' F', Qd d m' → Ext Z F F' → Wf K Z F' H' m' → post F' H' m' d v → Q v H') ∧ XOk K fld W Z F σ Ed
def tL (W : WX) (e : Ex) : TE := lift K fld W (rdE G e) fun F' _ _ d v => RelD K F' v d
def tLT (W : WX) (e : Ts) : TT := lift K fld W (rdT G e) fun _ _ _ d v => v = d
def tLO (W : WX) (e : Ox) : TO := lift K fld W (rdO G e) fun _ _ _ d v => v = d
def tLA (W : WX) (e : Exs) : TA := lift K fld W (rdA G e) fun F' _ _ d v => RelDs K F' v d
def tLI (W : WX) (e : Its) : TA := lift K fld W (rdI G e) fun F' _ _ d v => RelDs K F' v d
end
theorem XOk.ext {K : PySem.W.Frag} {fld : Nat → Addr × PySem.Str} {W : WX} {Z F F1 : Hp} {σ : L2.St} {Ed : XPost} (h : XOk K fld W Z F σ Ed) (e : Ext Z F F1) : XOk K fld W Z F1 σ Ed :=
  fun x m' H' F' cls dd a b c d => h x m' H' F' cls dd a (e.trans b) c d
/-! ### weakening -/
section
variable {X : Cx}
theorem PEimp {e : Expr} {t t' : TE} (h : PE X e t) (i : ∀ σ H Q, t' σ H Q → t σ H Q) : PE X e t' := ⟨fun pins s σ H Q I q => h.run pins s σ H Q I (i σ H Q q)⟩
theorem PTimp {e : Expr} {t t' : TT} (h : PT X e t) (i : ∀ σ H Q, t' σ H Q → t σ H Q) : PT X e t' := ⟨fun pins s σ H Q I q => h.run pins s σ H Q I (i σ H Q q)⟩
theorem PWimp {e : Expr} {t t' : TT} (h : PW X e t) (i : ∀ σ H Q, t' σ H Q → t σ H Q) : PW X e t' := ⟨fun wh pins s σ H Q I q => h.run wh pins s σ H Q I (i σ H Q q)⟩
theorem PAimp {e : List Expr} {t t' : TA} (h : PA X e t) (i : ∀ σ H Q, t' σ H Q → t σ H Q) : PA X e t' := ⟨fun p pins s σ H Q I q => h.run p pins s σ H Q I (i σ H Q q)⟩
theorem POimp {e : Option Expr} {t t' : TO} (h : PO X e t) (i : ∀ σ H Q, t' σ H Q → t σ H Q) : PO X e t' := ⟨fun pins s σ H Q I q => h.run pins s σ H Q I (i σ H Q q)⟩
end
/-! ### what stands behind a value -/
section
variable {K : PySem.W.Frag} {Z F H : Hp} {m : Mu} {v : V} {d : DV}
theorem Wf.lst (w : Wf K Z F H m) (r : RelD K F v d) {ds : List DV} (h : look m d = .lst ds) : ∃ a vs, v = .ref a ∧ H a = some (.lst vs) ∧ RelDs K F vs ds ∧ vs.length ≤ LINE := by
  cases r with
  | lst hf rs hl =>
    cases h
    refine ⟨_, _, rfl, ?_, rs, hl⟩
    exact w.sf _ _ hf
  | loc a =>
    unfold look at h
    simp only at h
    split at h <;> try cases h
    rename_i e
    obtain ⟨_, _, vs, h1, h2, h3⟩ := w.ob _ _ e
    exact ⟨_, vs, rfl, h1, h2, h3⟩
  | _ => cases h
theorem Wf.tup (w : Wf K Z F H m) (r : RelD K F v d) {ds : List DV} (h : look m d = .tup ds) : ∃ a vs, v = .ref a ∧ F a = some (.tup vs) ∧ H a = some (.tup vs) ∧ RelDs K F vs ds ∧ vs.length ≤ LINE := by
  cases r with
  | tup hf rs hl =>
    cases h
    refine ⟨_, _, rfl, hf, ?_, rs, hl⟩
    exact w.sf _ _ hf
  | loc a =>
    unfold look at h
    simp only at h
    split at h <;> cases h
  | _ => cases h
theorem Wf.scr (w : Wf K Z F H m) (r : RelD K F v d) {ns : List Int} (h : look m d = .scr ns) : ∃ a, v = .ref a ∧ SqL K H a (ns.map V.int) ∧ ns.length ≤ LINE := by
  cases r with
  | scr hf hl => cases h; exact ⟨_, rfl, Same.seq w.sf hf, hl⟩
  | loc a =>
    unfold look at h
    simp only at h
    split at h <;> cases h
  | _ => cases h
theorem Wf.str (r : RelD K F v d) {s : S} (h : look m d = .str s) : ∃ x : PySem.Str, v = .str x ∧ x.cps.toList = s ∧ ∀ c ∈ s, c < 0x110000 := by
  cases r with
  | str x hx => cases h; exact ⟨x, rfl, rfl, hx⟩
  | loc a =>
    unfold look at h
    simp only at h
    split at h <;> cases h
  | _ => cases h
theorem Wf.int (r : RelD K F v d) {i : Int} (h : look m d = .int i) : v = .int i := by
  cases r with
  | int j => cases h; rfl
  | loc a =>
    unfold look at h
    simp only at h
    split at h <;> cases h
  | _ => cases h
theorem Wf.bl (r : RelD K F v d) {i : Bool} (h : look m d = .bl i) : v = .bl i := by
  cases r with
  | bl j => cases h; rfl
  | loc a =>
    unfold look at h
    simp only at h
    split at h <;> cases h
  | _ => cases h
theorem Wf.non (r : RelD K F v d) (h : look m d = .non) : v = .non := by
  cases r with
  | non => rfl
  | loc a =>
    unfold look at h
    simp only at h
    split at h <;> cases h
  | _ => cases h
end
/-! ### equality -/
mutual
def toPy : DV → PyData
  | .non => .none
  | .bl b => .bool b
  | .int i => .int i
  | .str s => .str ⟨s.toArray⟩
  | .tup xs => .tuple (toPys xs)
  | .lst xs => .list (toPys xs)
  | _ => .none
def toPys : List DV → List PyData
  | [] => []
  | x :: r => toPy x :: toPys r
end
theorem str_eta (x : PySem.Str) : (⟨x.cps.toList.toArray⟩ : PySem.Str) = x := by cases x; simp
theorem str_beq (a b : S) : ((⟨a.toArray⟩ : PySem.Str) == ⟨b.toArray⟩) = (a == b) := by
  by_cases h : a = b
  · subst h; simp
  · have h1 : ¬ (⟨a.toArray⟩ : PySem.Str) = ⟨b.toArray⟩ := fun e => h (by injection e with e; simpa using congrArg Array.toList e)
    rw [beq_eq_false_iff_ne.mpr h1, beq_eq_false_iff_ne.mpr h]
mutual
theorem eqv_py : ∀ (a b : DV), plain a = true → plain b = true → PyData.eqv (toPy a) (toPy b) = eqv a b
  | .non, b, _, hb => by cases b <;> simp_all [toPy, PyData.eqv, eqv, plain]
  | .bl x, b, _, hb => by cases b <;> simp_all [toPy, PyData.eqv, eqv, plain]
  | .int x, b, _, hb => by cases b <;> simp_all [toPy, PyData.eqv, eqv, plain]
  | .str x, b, _, hb => by
    cases b <;> simp_all [toPy, PyData.eqv, eqv, plain]
    exact str_beq _ _
  | .tup x, b, ha, hb => by
    cases b <;> simp_all [toPy, PyData.eqv, eqv, plain]
    exact eqvs_py _ _ ha hb
  | .lst x, b, ha, hb => by
    cases b <;> simp_all [toPy, PyData.eqv, eqv, plain]
    exact eqvs_py _ _ ha hb
  | .dic _, _, ha, _ => by simp [plain] at ha
  | .dit _, _, ha, _ => by simp [plain] at ha
  | .ins _ _, _, ha, _ => by simp [plain] at ha
  | .loc _, _, ha, _ => by simp [plain] at ha
  | .scr _, _, ha, _ => by simp [plain] at ha
theorem eqvs_py : ∀ (a b : List DV), plains a = true → plains b = true → PyData.eqvAll (toPys a) (toPys b) = eqvs a b
  | [], [], _, _ => by simp [toPys, PyData.eqvAll, eqvs]
  | [], _ :: _, _, _ => by simp [toPys, PyData.eqvAll, eqvs]
  | _ :: _, [], _, _ => by simp [toPys, PyData.eqvAll, eqvs]
  | x :: r, y :: s, ha, hb => by
    simp only [plains, Bool.and_eq_true] at ha hb
    simp only [toPys, PyData.eqvAll, eqvs]
    rw [eqv_py x y ha.1 hb.1, eqvs_py r s ha.2 hb.2]
end
mutual
theorem depth_py : ∀ a : DV, plain a = true → (toPy a).depth = depth a
  | .non, _ => by simp [toPy, PyData.depth, depth]
  | .bl x, _ => by simp [toPy, PyData.depth, depth]
  | .int x, _ => by simp [toPy, PyData.depth, depth]
  | .str x, _ => by simp [toPy, PyData.depth, depth]
  | .tup x, ha => by
    simp only [toPy, PyData.depth, depth]
    rw [depths_py x (by simpa [plain] using ha)]
  | .lst x, ha => by
    simp only [toPy, PyData.depth, depth]
    rw [depths_py x (by simpa [plain] using ha)]
  | .dic _, ha => by simp [plain] at ha
  | .dit _, ha => by simp [plain] at ha
  | .ins _ _, ha => by simp [plain] at ha
  | .loc _, ha => by simp [plain] at ha
  | .scr _, ha => by simp [plain] at ha
theorem depths_py : ∀ a : List DV, plains a = true → PyData.depthAll (toPys a) = depths a
  | [], _ => by simp [toPys, PyData.depthAll, depths]
  | x :: r, ha => by
    simp only [plains, Bool.and_eq_true] at ha
    simp only [toPys, PyData.depthAll, depths]
    rw [depth_py x ha.1, depths_py r ha.2]
end
section
variable {K : PySem.W.Frag} {F H : Hp}
theorem strOk_of {x : PySem.Str} (h : ∀ c ∈ x.cps.toList, c < 0x110000) : PyData.strOk x = true := by
  unfold PyData.strOk
  rw [← Array.all_toList]
  exact List.all_eq_true.mpr fun c hc => decide_eq_true (h c hc)
mutual
theorem RelD.dp (w : Sub F H) : ∀ {v : V} {d : DV}, RelD K F v d → plain d = true → Dp K H v (toPy d) ∧ (toPy d).canLay0 = true
  | _, _, .non, _ => ⟨.non, rfl⟩
  | _, _, .bl b, _ => ⟨.bl b, rfl⟩
  | _, _, .int i, _ => ⟨.int i, rfl⟩
  | _, _, .str x hx, _ => by
    simp only [toPy]
    rw [str_eta]
    refine ⟨.str x, ?_⟩
    simp only [PyData.canLay0]
    exact strOk_of hx
  | _, _, .tup h r _, p => by
    simp only [toPy, PyData.canLay0]
    obtain ⟨a, b⟩ := RelDs.dp w r (by simpa [plain] using p)
    refine ⟨.tup (SqT.of ?_) a, b⟩
    exact w _ _ h
  | _, _, .lst h r _, p => by
    simp only [toPy, PyData.canLay0]
    obtain ⟨a, b⟩ := RelDs.dp w r (by simpa [plain] using p)
    refine ⟨.lst (SqL.of ?_) a, b⟩
    exact w _ _ h
  | _, _, .dic _ _, p => by simp [plain] at p
  | _, _, .dit _ _, p => by simp [plain] at p
  | _, _, .ins _ _, p => by simp [plain] at p
  | _, _, .loc _, p => by simp [plain] at p
  | _, _, .scr _ _, p => by simp [plain] at p
theorem RelDs.dp (w : Sub F H) : ∀ {v : List V} {d : List DV}, RelDs K F v d → plains d = true → DpAll K H v (toPys d) ∧ PyData.canLayAll0 (toPys d) = true
  | _, _, .nil, _ => ⟨.nil, rfl⟩
  | _, _, .cons a b, p => by
    simp only [plains, Bool.and_eq_true] at p
    obtain ⟨x1, x2⟩ := RelD.dp w a p.1
    obtain ⟨y1, y2⟩ := RelDs.dp w b p.2
    refine ⟨.cons x1 y1, ?_⟩
    simp only [toPys, PyData.canLayAll0, x2, y2, Bool.and_self]
end
variable {Z : Hp} {m : Mu}
theorem Wf.dp (w : Wf K Z F H m) {v : V} {d : DV} (r : RelD K F v d) (p : plain (look m d) = true) : Dp K H v (toPy (look m d)) ∧ (toPy (look m d)).canLay0 = true := by
  have key : ∀ d : DV, (∀ a, d ≠ .loc a) → look m d = d := fun d h => by
    cases d <;> first | rfl | exact absurd rfl (h _)
  cases r with
  | loc a =>
    cases e : look m (.loc a) with
    | lst ds =>
      rw [e] at p
      obtain ⟨b, vs, h0, h1, h2, _⟩ := w.lst (.loc a) e
      cases h0
      obtain ⟨x, y⟩ := h2.dp w.sf (by simpa [plain] using p)
      simp only [toPy, PyData.canLay0]
      exact ⟨.lst (SqL.of h1) x, y⟩
    | _ => exact absurd p (by
        unfold look at e
        simp only at e
        split at e <;> (first | (cases e; done) | (simp only [look]; simp [*, plain])))
  | non => exact RelD.dp w.sf .non p
  | bl b => exact RelD.dp w.sf (.bl b) p
  | int b => exact RelD.dp w.sf (.int b) p
  | str b hb => exact RelD.dp w.sf (.str b hb) p
  | tup a b c => exact RelD.dp w.sf (.tup a b c) p
  | lst a b c => exact RelD.dp w.sf (.lst a b c) p
  | dic a b => exact RelD.dp w.sf (.dic a b) p
  | dit a b => exact RelD.dp w.sf (.dit a b) p
  | ins a b => exact RelD.dp w.sf (.ins a b) p
  | scr a b => exact RelD.dp w.sf (.scr a b) p
end
end DL

set_option Elab.async false
set_option linter.all false
set_option maxRecDepth 100000
set_option maxHeartbeats 2000000
/-! DLQ: == looked at through places -/
namespace DLNe
open PySem PySem.SeqAt
open PySem.AutoSeq1 (wpAny_loadPart')
open PySem.MeetsSeq PySem.MeetsSeq2 PySem.MeetsSeq3 PySem.SeqRoads2
section
variable {pg : Program} {wd : World}
/-- two tuples, equal item by item: != says no -/
theorem tupNe (p q : Addr) (xs ys : Array Value) (i0 j0 : Nat) (d0 d1 : Option Addr) (t0 t1 : Array (Option Value)) (hz : xs.size = ys.size) :
    MeetsIn pg wd (Builtin.«tuple.__ne__» ⟨[.ref p, .ref q], []⟩) (fun A R s => s.heap.get? p = some { cls := .type "tuple", dict := d0, data := .seq xs i0, slots := t0 } ∧ s.heap.get? q = some { cls := .type "tuple", dict := d1, data := .seq ys j0, slots := t1 } ∧
      (∀ j (g1 : j < xs.size) (g2 : j < ys.size), EqIn pg wd A.in1 s xs[j] ys[j] true) ∧ R (.ok (.ret (.bool false))) s) :=
  .of_wp fun A R s h => by
    obtain ⟨hh, gg, dd, tt, oo⟩ := s
    obtain ⟨hp, hq, eqs, done⟩ := h
    have sub := AutoSeq1.sub_tuple_tuple
    wp_walk using wpAny_loadPart' hp, wpAny_loadPart' hq, wpAny_forIn_list _ (fun rest b s' => b.1 = none ∧ s' = ⟨hh, gg, dd, tt, oo⟩ ∧ ∃ i, rest = (xs.toList.zip ys.toList).drop i) _
    case turn =>
      rintro ⟨y, x⟩ rest b s' ⟨nb, rfl, i, er⟩
      have lt : i < (xs.toList.zip ys.toList).length := by
        rcases Nat.lt_or_ge i (xs.toList.zip ys.toList).length with z | z
        · exact z
        · rw [List.drop_of_length_le z] at er; cases er
      have l1 : i < xs.size := by simp at lt; omega
      have l2 : i < ys.size := by omega
      rw [List.drop_eq_getElem_cons lt] at er
      injection er with e1 e2
      have ey : y = xs[i] := by simpa using congrArg Prod.fst e1
      have ex : x = ys[i] := by simpa using congrArg Prod.snd e1
      subst ey ex
      refine wpAny_bind (eqs i l1 l2 _ _ ?_)
      wp_walk
      exact ⟨rfl, rfl, i + 1, e2⟩
    case fin =>
      rintro ⟨b1, b2⟩ s' ⟨nb, rfl, i, er⟩
      simp only at nb
      subst nb
      wp_walk
      exact ⟨_, rfl, by simpa [Builtin.Tuple.tupleCompareSizes, bne, hz] using done⟩
    case h =>
      exact ⟨rfl, rfl, 0, rfl⟩
theorem lstNeLoop (p q : Addr) (xs ys : Array Value) (i0 j0 : Nat) (d0 d1 : Option Addr) (t0 t1 : Array (Option Value)) (hz : xs.size = ys.size) (k : Nat) :
    ∀ i : Nat, xs.size - i = k → MeetsIn pg wd (Builtin.«list.__eq__.loop» ⟨[.ref p, .ref q, rawInt i, rawInt 3], []⟩) (fun A R s => s.heap.get? p = some { cls := .type "list", dict := d0, data := .seq xs i0, slots := t0 } ∧ s.heap.get? q = some { cls := .type "list", dict := d1, data := .seq ys j0, slots := t1 } ∧
      (∀ j (g1 : j < xs.size) (g2 : j < ys.size), EqIn pg wd A.in1 s xs[j] ys[j] true) ∧ R (.ok (.ret (.bool false))) s) := by
  induction k with
  | zero =>
    intro i ek A R s h
    obtain ⟨hh, gg, dd, tt, oo⟩ := s
    obtain ⟨hp, hq, eqs, done⟩ := h
    wp_walk using wpAny_loadPart' hp, wpAny_loadPart' hq
    have n1 : xs[((i : Nat) : Int).toNat]? = none := by simp; omega
    have n2 : ys[((i : Nat) : Int).toNat]? = none := by simp; omega
    rw [n1, n2]
    wp_walk using wpAny_loadPart' hp, wpAny_loadPart' hq
    show R (.ok (.ret (.bool (xs.size != ys.size)))) _
    rw [hz]
    simpa using done
  | succ k ih =>
    intro i ek A R s h
    obtain ⟨hh, gg, dd, tt, oo⟩ := s
    obtain ⟨hp, hq, eqs, done⟩ := h
    wp_walk using wpAny_loadPart' hp, wpAny_loadPart' hq
    have l1 : i < xs.size := by omega
    have l2 : i < ys.size := by omega
    have n1 : xs[((i : Nat) : Int).toNat]? = some xs[i] := by simp [l1]
    have n2 : ys[((i : Nat) : Int).toNat]? = some ys[i] := by simp [l2]
    have ei : ((i : Int) + 1) = ((i + 1 : Nat) : Int) := by push_cast; rfl
    rw [n1, n2]
    refine wpAny_bind (eqs i l1 l2 _ _ ?_)
    wp_walk
    rw [ei]
    refine ⟨plainId_quiet plain_eq_loop _, codeAny_builtin entry_eq_loop ?_⟩
    rw [Around.under_plainId plain_eq_loop _]
    exact ih (i + 1) (by omega) A R _ ⟨hp, hq, eqs, done⟩
theorem lstNe (p q : Addr) (xs ys : Array Value) (i0 j0 : Nat) (d0 d1 : Option Addr) (t0 t1 : Array (Option Value)) (hz : xs.size = ys.size) :
    MeetsIn pg wd (Builtin.«list.__ne__» ⟨[.ref p, .ref q], []⟩) (fun A R s => s.heap.get? p = some { cls := .type "list", dict := d0, data := .seq xs i0, slots := t0 } ∧ s.heap.get? q = some { cls := .type "list", dict := d1, data := .seq ys j0, slots := t1 } ∧
      (∀ j (g1 : j < xs.size) (g2 : j < ys.size), EqIn pg wd A.in1 s xs[j] ys[j] true) ∧ R (.ok (.ret (.bool false))) s) := by
  intro A R s h
  obtain ⟨hh, gg, dd, tt, oo⟩ := s
  obtain ⟨hp, hq, eqs, done⟩ := h
  have sub := AutoSeq1.sub_list_list
  have nz : ¬ (xs.size != ys.size) = true := by simp [hz]
  wp_walk using wpAny_loadPart' hp, wpAny_loadPart' hq
  refine ⟨plainId_quiet plain_eq_loop _, codeAny_builtin entry_eq_loop ?_⟩
  rw [Around.under_plainId plain_eq_loop _]
  exact lstNeLoop p q xs ys i0 j0 d0 d1 t0 t1 hz _ 0 rfl A R _ ⟨hp, hq, eqs, done⟩
variable {A : Around} {s : Shared}
theorem tupsNe {E Q : Value → Shared → Prop} {p q : Addr} {xs ys : Array Value} (h1 : s.heap.IsTuple p xs) (h2 : s.heap.IsTuple q ys) (hz : xs.size = ys.size) (hu : A.units < cLine)
    (eqs : ∀ j (g1 : j < xs.size) (g2 : j < ys.size), EqIn pg wd A.in1 s xs[j] ys[j] true) (done : Q (.bool false) s) : wpAny (model pg wd) A (richCompare .NotEq (.ref p) (.ref q)) Q E s := by
  obtain ⟨⟨c0, d0, a0, t0⟩, g1, e1, i0, f1⟩ := id h1
  obtain ⟨⟨c1, d1, a1, t1⟩, g2, e2, j0, f2⟩ := id h2
  simp only at e1 f1 e2 f2
  subst e1 f1 e2 f2
  refine wpAny_richCompare_same_room (T := "tuple") (op := .NotEq) ⟨_, g1, rfl⟩ ⟨_, g2, rfl⟩ F.slot_tuple_ne (call_meetsIn F.slot_tuple_ne ⟨_, g1, rfl⟩ F.entry_tuple_ne (F.args_tuple_ne_2 _ _) (tupNe p q xs ys i0 j0 d0 d1 t0 t1 hz) ⟨g1, g2, eqs, ?_⟩) hu
  exact (show Value.bool false ≠ Value.notImplemented ∧ Q (.bool false) s from ⟨(fun x => nomatch x), done⟩)
theorem lstsNe {E Q : Value → Shared → Prop} {p q : Addr} {xs ys : Array Value} (h1 : s.heap.IsList p xs) (h2 : s.heap.IsList q ys) (hz : xs.size = ys.size) (hu : A.units < cLine)
    (eqs : ∀ j (g1 : j < xs.size) (g2 : j < ys.size), EqIn pg wd A.in1 s xs[j] ys[j] true) (done : Q (.bool false) s) : wpAny (model pg wd) A (richCompare .NotEq (.ref p) (.ref q)) Q E s := by
  obtain ⟨⟨c0, d0, a0, t0⟩, g1, e1, i0, f1⟩ := id h1
  obtain ⟨⟨c1, d1, a1, t1⟩, g2, e2, j0, f2⟩ := id h2
  simp only at e1 f1 e2 f2
  subst e1 f1 e2 f2
  refine wpAny_richCompare_same_room (T := "list") (op := .NotEq) ⟨_, g1, rfl⟩ ⟨_, g2, rfl⟩ F.slot_list_ne (call_meetsIn F.slot_list_ne ⟨_, g1, rfl⟩ F.entry_list_ne (F.args_list_ne_2 _ _) (lstNe p q xs ys i0 j0 d0 d1 t0 t1 hz) ⟨g1, g2, eqs, ?_⟩) hu
  exact (show Value.bool false ≠ Value.notImplemented ∧ Q (.bool false) s from ⟨(fun x => nomatch x), done⟩)
end
end DLNe
namespace DL
open PySem L2
def leafW (K : PySem.W.Frag) (H : Hp) (x y : V) : Prop := ∃ d e, Dp K H x d ∧ Dp K H y e ∧ d.canLay0 = true ∧ e.canLay0 = true ∧ d.depth ≤ 20 ∧ e.depth ≤ 20 ∧ PyData.eqv d e = true
def nodeW (K : PySem.W.Frag) (H : Hp) (p : V → V → Prop) (x y : V) : Prop := ∃ a b, x = .ref a ∧ y = .ref b ∧
  ((∃ xs ys, SqT K H a xs ∧ SqT K H b ys ∧ Paired p xs ys) ∨ (∃ xs ys, SqL K H a xs ∧ SqL K H b ys ∧ Paired p xs ys) ∨ (Rd H a (.dK []) ∧ Rd H b (.dK [])))
def EqW (K : PySem.W.Frag) (H : Hp) : Nat → V → V → Prop
  | 0, x, y => leafW K H x y
  | n + 1, x, y => leafW K H x y ∨ nodeW K H (EqW K H n) x y
section
variable {X : Cx} {pins : List (Addr × Obj)} {σ : L2.St} {H : Hp} {s : Shared}
theorem leafW.at (I : Inv X pins σ H s) {x y : V} {v u : Value} (h : leafW X.K H x y) (rx : RelV x v) (ry : RelV y u) (A : Around) (hu : A.units + 20 < cLine) : SeqAt.EqAt A s v u true := by
  obtain ⟨d, e, hd, he, c1, c2, d1, d2, q⟩ := h
  obtain ⟨as, r1⟩ := Dp.reads I d x v hd rx
  obtain ⟨bs, r2⟩ := Dp.reads I e y u he ry
  have z := SeqAt.eqAt_reads d e A s v u as bs r1 r2 c1 c2 (by have := Nat.min_le_left d.depth e.depth; omega)
  rw [q] at z
  exact z
theorem all_true (n : Nat) : ((List.range n).all fun _ => true) = true := List.all_eq_true.mpr fun _ _ => rfl
theorem pair_get {p : V → V → Prop} : ∀ {xs ys : List V}, Paired p xs ys → ∀ {us ws : List Value}, Vals xs us → Vals ys ws → ∀ j (h1 : j < us.length) (h2 : j < ws.length), ∃ x y, p x y ∧ RelV x us[j] ∧ RelV y ws[j]
  | _, _, .nil, _, _, r1, r2, j, h1, h2 => by cases r1; exact absurd h1 (Nat.not_lt_zero j)
  | _, _, .cons h t, _, _, r1, r2, j, h1, h2 => by
    cases r1 with
    | cons a1 b1 =>
      cases r2 with
      | cons a2 b2 =>
        cases j with
        | zero => exact ⟨_, _, h, a1, a2⟩
        | succ j => exact pair_get t b1 b2 j (Nat.lt_of_succ_lt_succ h1) (Nat.lt_of_succ_lt_succ h2)
/-- the tree of a node, and the comparison itself -/
theorem node_run (I : Inv X pins σ H s) {p : V → V → Prop} {n : Nat} (ih : ∀ x y v u, p x y → RelV x v → RelV y u → PySem.W.EqTree X.prog X.w s n v u true) {x y : V} {v u : Value} (h : nodeW X.K H p x y) (rx : RelV x v) (ry : RelV y u) :
    PySem.W.EqTree X.prog X.w s (n + 1) v u true ∧ ∀ (A : Around) (E Q : Value → Shared → Prop), A.units + (n + 1) < cLine → Q (.bool true) s → wpAny (model X.prog X.w) A (compareOp .Eq v u) Q E s := by
  obtain ⟨a, b, rfl, rfl, h⟩ := h
  cases (show v = Value.ref a from rx)
  cases (show u = Value.ref b from ry)
  by_cases e : a = b
  · subst e
    refine ⟨.same, fun A E Q hu q => ?_⟩
    rcases h with ⟨xs, ys, h1, h2, h3⟩ | ⟨xs, ys, h1, h2, h3⟩ | ⟨h1, h2⟩
    · obtain ⟨us, r1, p1, _⟩ := I.tuple h1
      have z := PySem.W.eq_tuplesT (prog := X.prog) (w := X.w) (A := A) (E := E) (n := n) (e := fun _ => true) (Q := Q) p1 p1 (fun j h1 h2 => .same) hu
      rw [all_true] at z
      exact z (by simpa using q)
    · obtain ⟨us, r1, p1, _⟩ := I.list h1
      have z := PySem.W.eq_listsT (prog := X.prog) (w := X.w) (A := A) (E := E) (n := n) (e := fun _ => true) (Q := Q) p1.isList p1.isList rfl (fun j h1 h2 => .same) hu
      rw [all_true] at z
      exact z q
    · obtain ⟨_, ya, va, ra, da⟩ := (show ObjOk X.prog X.w H s.heap a (.dK []) from h1.ok I.hok)
      have z := PySem.W.eq_dictsT (prog := X.prog) (w := X.w) (A := A) (E := E) (n := n) (e := fun _ => true) (Q := Q) ya ya da da (fun k v y hm hv => by cases ra; cases hm) hu
      cases ra
      exact z (by simpa using q)
  · rcases h with ⟨xs, ys, h1, h2, h3⟩ | ⟨xs, ys, h1, h2, h3⟩ | ⟨h1, h2⟩
    · obtain ⟨us, r1, p1, _⟩ := I.tuple h1
      obtain ⟨ws, r2, p2, _⟩ := I.tuple h2
      have hl : us.length = ws.length := by rw [← r1.length, ← r2.length]; exact Paired.length h3
      have t : ∀ j (h1 : j < us.toArray.size) (h2 : j < ws.toArray.size), PySem.W.EqTree X.prog X.w s n us.toArray[j] ws.toArray[j] true := fun j g1 g2 => by
        obtain ⟨x, y, q, ra, rb⟩ := pair_get h3 r1 r2 j (by simpa using g1) (by simpa using g2)
        simpa using ih x y _ _ q ra rb
      have e1 : ((List.range (min us.toArray.size ws.toArray.size)).all (fun _ => true) && us.toArray.size == ws.toArray.size) = true := by
        rw [all_true]; simp [hl]
      refine ⟨?_, fun A E Q hu q => PySem.W.eq_tuplesT (e := fun _ => true) p1 p2 t hu (by rw [e1]; exact q)⟩
      have z := PySem.W.EqTree.tuples (e := fun _ => true) e p1 p2 t
      rw [e1] at z
      exact z
    · obtain ⟨us, r1, p1, _⟩ := I.list h1
      obtain ⟨ws, r2, p2, _⟩ := I.list h2
      have hl : us.length = ws.length := by rw [← r1.length, ← r2.length]; exact Paired.length h3
      have t : ∀ j (h1 : j < us.toArray.size) (h2 : j < ws.toArray.size), PySem.W.EqTree X.prog X.w s n us.toArray[j] ws.toArray[j] true := fun j g1 g2 => by
        obtain ⟨x, y, q, ra, rb⟩ := pair_get h3 r1 r2 j (by simpa using g1) (by simpa using g2)
        simpa using ih x y _ _ q ra rb
      refine ⟨?_, fun A E Q hu q => PySem.W.eq_listsT (e := fun _ => true) p1.isList p2.isList (by simpa using hl) t hu (by rw [all_true]; exact q)⟩
      have z := PySem.W.EqTree.lists (e := fun _ => true) e p1.isList p2.isList (by simpa using hl) t
      rw [all_true] at z
      exact z
    · obtain ⟨_, ya, va, ra, da⟩ := (show ObjOk X.prog X.w H s.heap a (.dK []) from h1.ok I.hok)
      obtain ⟨_, yb, vb, rb, db⟩ := (show ObjOk X.prog X.w H s.heap b (.dK []) from h2.ok I.hok)
      cases ra
      cases rb
      refine ⟨?_, fun A E Q hu q => PySem.W.eq_dictsT (e := fun _ => true) ya yb da db (fun k v y hm hv => by cases hm) hu (by simpa using q)⟩
      have z := PySem.W.EqTree.dicts (n := n) (e := fun _ => true) e ya yb da db (fun k v y hm hv => by cases hm)
      simpa using z
theorem EqW.tree (I : Inv X pins σ H s) : ∀ (n : Nat) (x y : V) (v u : Value), EqW X.K H n x y → RelV x v → RelV y u → PySem.W.EqTree X.prog X.w s (n + 20) v u true
  | 0, x, y, v, u, h, rx, ry => .leaf fun A hu => leafW.at I h rx ry A (by omega)
  | n + 1, x, y, v, u, h, rx, ry => by
    rcases h with h | h
    · exact .leaf fun A hu => leafW.at I h rx ry A (by omega)
    · have z := (node_run I (EqW.tree I n) h rx ry).1
      rw [show n + 1 + 20 = n + 20 + 1 by omega]
      exact z
end
section
variable {X : Cx}
def rEqW (K : PySem.W.Frag) : R2 := fun x y H Q => EqW K H 20 x y ∧ Q (.bl true) H
def rNeW (K : PySem.W.Frag) : R2 := fun x y H Q => EqW K H 20 x y ∧ Q (.bl false) H
theorem eqw_run {pins : List (Addr × Obj)} {σ : L2.St} {H : Hp} {s : Shared} (hu : X.A.units + 64 < cLine) (I : Inv X pins σ H s) {x y : V} {v u : Value} (h : EqW X.K H 20 x y) (rx : RelV x v) (ry : RelV y u) (E Q : Value → Shared → Prop) (q : Q (.bool true) s) : wpAny (model X.prog X.w) X.A (compareOp .Eq v u) Q E s := by
  rcases h with ⟨d, e, hd, he, c1, c2, d1, d2, qq⟩ | h
  · obtain ⟨as, r1⟩ := Dp.reads I d x v hd rx
    obtain ⟨bs, r2⟩ := Dp.reads I e y u he ry
    exact SeqAt.compareEq_reads r1 r2 c1 c2 (by have := Nat.min_le_left d.depth e.depth; omega) (by rw [qq]; exact q)
  · exact (node_run I (EqW.tree I 19) h rx ry).2 X.A E Q (by omega) q
theorem new_run {pins : List (Addr × Obj)} {σ : L2.St} {H : Hp} {s : Shared} (hu : X.A.units + 64 < cLine) (I : Inv X pins σ H s) {x y : V} {v u : Value} (h : EqW X.K H 20 x y) (rx : RelV x v) (ry : RelV y u) (E Q : Value → Shared → Prop) (q : Q (.bool false) s) : wpAny (model X.prog X.w) X.A (compareOp .NotEq v u) Q E s := by
  rcases h with ⟨d, e, hd, he, c1, c2, d1, d2, qq⟩ | h
  · obtain ⟨as, r1⟩ := Dp.reads I d x v hd rx
    obtain ⟨bs, r2⟩ := Dp.reads I e y u he ry
    exact SeqAt.compareNe_reads r1 r2 c1 c2 (by have := Nat.min_le_left d.depth e.depth; omega) (by rw [qq]; exact q)
  · obtain ⟨a, b, rfl, rfl, h⟩ := h
    cases (show v = Value.ref a from rx)
    cases (show u = Value.ref b from ry)
    rcases h with ⟨xs, ys, h1, h2, h3⟩ | ⟨xs, ys, h1, h2, h3⟩ | ⟨h1, h2⟩
    · obtain ⟨us, r1, p1, _⟩ := I.tuple h1
      obtain ⟨ws, r2, p2, _⟩ := I.tuple h2
      have hl : us.length = ws.length := by rw [← r1.length, ← r2.length]; exact Paired.length h3
      refine DLNe.tupsNe p1 p2 (by simpa using hl) (by omega) (fun j g1 g2 => ?_) q
      obtain ⟨x, y, qq, ra, rb⟩ := pair_get h3 r1 r2 j (by simpa using g1) (by simpa using g2)
      have z := (EqW.tree I 19 x y _ _ qq ra rb).at X.A.in1 (by show X.A.units + 1 + 39 < cLine; omega)
      simpa using z
    · obtain ⟨us, r1, p1, _⟩ := I.list h1
      obtain ⟨ws, r2, p2, _⟩ := I.list h2
      have hl : us.length = ws.length := by rw [← r1.length, ← r2.length]; exact Paired.length h3
      refine DLNe.lstsNe p1.isList p2.isList (by simpa using hl) (by omega) (fun j g1 g2 => ?_) q
      obtain ⟨x, y, qq, ra, rb⟩ := pair_get h3 r1 r2 j (by simpa using g1) (by simpa using g2)
      have z := (EqW.tree I 19 x y _ _ qq ra rb).at X.A.in1 (by show X.A.units + 1 + 39 < cLine; omega)
      simpa using z
    · obtain ⟨_, ya, va, ra, da⟩ := (show ObjOk X.prog X.w H s.heap a (.dK []) from h1.ok I.hok)
      obtain ⟨_, yb, vb, rb, db⟩ := (show ObjOk X.prog X.w H s.heap b (.dK []) from h2.ok I.hok)
      cases ra
      cases rb
      exact PySem.W.keq_ne (r := true) ya yb da db (by omega) (fun _ => .nil) (by simpa using q)
theorem op_neW (hu : X.A.units + 64 < cLine) : OpR X (compareOp .NotEq) (rNeW X.K) := by
  intro pins s σ H x y v u Q I rx ry h
  exact new_run hu I h.1 rx ry _ _ ⟨.bl false, H, I, rfl, h.2⟩
theorem op_eqW (hu : X.A.units + 64 < cLine) : OpR X (compareOp .Eq) (rEqW X.K) := by
  intro pins s σ H x y v u Q I rx ry h
  exact eqw_run hu I h.1 rx ry _ _ ⟨.bl true, H, I, rfl, h.2⟩
end
/-! from the data -/
section
variable {K : PySem.W.Frag} {Z F H : Hp} {m : Mu}
theorem look_eq_of_nl {d : DV} (h : isLoc d = false) : look m d = d := by cases d <;> first | rfl | cases h
theorem leaf_ok (w : Wf K Z F H m) {x y : V} {dx dy : DV} (rx : RelD K F x dx) (ry : RelD K F y dy) (h : leafT dx dy) : leafW K H x y := by
  obtain ⟨p1, p2, q, d1, d2⟩ := h
  obtain ⟨a1, c1⟩ := rx.dp w.sf p1
  obtain ⟨a2, c2⟩ := ry.dp w.sf p2
  exact ⟨_, _, a1, a2, c1, c2, by rw [depth_py _ p1]; exact d1, by rw [depth_py _ p2]; exact d2, by rw [eqv_py _ _ p1 p2]; exact q⟩
theorem all2_ok {p : DV → DV → Prop} {P : V → V → Prop} (ih : ∀ {x y : V} {dx dy : DV}, RelD K F x dx → RelD K F y dy → p dx dy → P x y) : ∀ {xs ys : List V} {ds es : List DV}, RelDs K F xs ds → RelDs K F ys es → all2 p ds es → Paired P xs ys
  | _, _, _, _, .nil, .nil, _ => .nil
  | _, _, _, _, .nil, .cons _ _, h => h.elim
  | _, _, _, _, .cons _ _, .nil, h => h.elim
  | _, _, _, _, .cons a b, .cons c d, h => .cons (ih a c h.1) (all2_ok ih b d h.2)
theorem Wf.dicNil (w : Wf K Z F H m) {v : V} {d : DV} (r : RelD K F v d) (e : look m d = .dic []) : ∃ a, v = .ref a ∧ Rd H a (.dK []) := by
  cases r with
  | dic hf rs =>
    cases e
    cases rs
    exact ⟨_, rfl, Rd.same w.sf hf⟩
  | loc x =>
    unfold look at e
    simp only at e
    split at e <;> try cases e
    rename_i e0
    obtain ⟨_, _, vs, h1, h2⟩ := w.ob _ _ e0
    cases h2
    exact ⟨_, rfl, .inl h1⟩
  | _ => cases e
theorem node_ok (w : Wf K Z F H m) {p : DV → DV → Prop} {P : V → V → Prop} (ih : ∀ {x y : V} {dx dy : DV}, RelD K F x dx → RelD K F y dy → p dx dy → P x y) {x y : V} {dx dy : DV} (rx : RelD K F x dx) (ry : RelD K F y dy) (h : nodeT p (look m dx) (look m dy)) : nodeW K H P x y := by
  unfold nodeT at h
  split at h
  · rename_i e1 e2
    obtain ⟨a, xs, rfl, _, ha, ra, _⟩ := w.tup rx e1
    obtain ⟨b, ys, rfl, _, hb, rb, _⟩ := w.tup ry e2
    exact ⟨a, b, rfl, rfl, .inl ⟨xs, ys, SqT.of ha, SqT.of hb, all2_ok ih ra rb h⟩⟩
  · rename_i e1 e2
    obtain ⟨a, xs, rfl, ha, ra, _⟩ := w.lst rx e1
    obtain ⟨b, ys, rfl, hb, rb, _⟩ := w.lst ry e2
    exact ⟨a, b, rfl, rfl, .inr (.inl ⟨xs, ys, SqL.of ha, SqL.of hb, all2_ok ih ra rb h⟩)⟩
  · rename_i e1 e2
    obtain ⟨a, rfl, ha⟩ := w.dicNil rx e1
    obtain ⟨b, rfl, hb⟩ := w.dicNil ry e2
    exact ⟨a, b, rfl, rfl, .inr (.inr ⟨ha, hb⟩)⟩
  · exact h.elim
theorem EqT.ok (w : Wf K Z F H m) : ∀ (n : Nat) {x y : V} {dx dy : DV}, RelD K F x dx → RelD K F y dy → EqT m n dx dy → EqW K H n x y
  | 0, _, _, _, _, rx, ry, h => leaf_ok w rx ry h
  | n + 1, _, _, _, _, rx, ry, h => by
    rcases h with h | h
    · exact .inl (leaf_ok w rx ry h)
    · exact .inr (node_ok w (EqT.ok w n) rx ry h)
theorem look_look {d : DV} : look m (look m d) = look m d := by
  cases d with
  | loc a =>
    simp only [look]
    cases e : m a with
    | none => simp only [look, e]
    | some o => cases o <;> simp only [look, e]
  | _ => rfl
/-- at the top the values are looked at already -/
theorem EqT.top (w : Wf K Z F H m) {n : Nat} {x y : V} {dx dy : DV} (rx : RelD K F x dx) (ry : RelD K F y dy) (h : EqT m (n + 1) (look m dx) (look m dy)) : EqW K H (n + 1) x y := by
  rcases h with ⟨p1, p2, q, d1, d2⟩ | h
  · obtain ⟨a1, c1⟩ := w.dp rx p1
    obtain ⟨a2, c2⟩ := w.dp ry p2
    exact .inl ⟨_, _, a1, a2, c1, c2, by rw [depth_py _ p1]; exact d1, by rw [depth_py _ p2]; exact d2, by rw [eqv_py _ _ p1 p2]; exact q⟩
  · rw [look_look, look_look] at h
    exact .inr (node_ok w (EqT.ok w n) rx ry h)
end
end DL

set_option Elab.async false
set_option linter.all false
set_option maxRecDepth 100000
set_option maxHeartbeats 2000000
namespace DL
open PySem L2
section
variable {X : Cx}
/-! ### operators on values -/
def rInT (K : PySem.W.Frag) : R2 := fun x y H Q => ∃ d ds, Dp K H x d ∧ Dp K H y (.tuple ds) ∧ SeqAt.shaped d = true ∧ SeqAt.shaped (.tuple ds) = true ∧ Q (.bl (ds.any fun z => PyData.eqv z d)) H
def rNotInT (K : PySem.W.Frag) : R2 := fun x y H Q => ∃ d ds, Dp K H x d ∧ Dp K H y (.tuple ds) ∧ SeqAt.shaped d = true ∧ SeqAt.shaped (.tuple ds) = true ∧ Q (.bl (!ds.any fun z => PyData.eqv z d)) H
theorem op_inT (hu : X.A.units + 65 < cLine) : OpR X (compareOp .In) (rInT X.K) := by
  intro pins s σ H x y v u Q I rx ry h
  obtain ⟨d, ds, hd, he, sd, se, q⟩ := h
  obtain ⟨as, r1⟩ := Dp.reads I d x v hd rx
  obtain ⟨bs, r2⟩ := Dp.reads I (.tuple ds) y u he ry
  exact SeqAt.in_tuple_reads r2 r1 (SeqAt.canLay_of_shaped se) (SeqAt.canLay_of_shaped sd) (PyProof.Rows.room_in_shaped sd hu) ⟨.bl _, H, I, rfl, q⟩
theorem op_notInT (hu : X.A.units + 65 < cLine) : OpR X (compareOp .NotIn) (rNotInT X.K) := by
  intro pins s σ H x y v u Q I rx ry h
  obtain ⟨d, ds, hd, he, sd, se, q⟩ := h
  obtain ⟨as, r1⟩ := Dp.reads I d x v hd rx
  obtain ⟨bs, r2⟩ := Dp.reads I (.tuple ds) y u he ry
  exact SeqAt.notIn_tuple_reads r2 r1 (SeqAt.canLay_of_shaped se) (SeqAt.canLay_of_shaped sd) (PyProof.Rows.room_in_shaped sd hu) ⟨.bl _, H, I, rfl, q⟩
def bopP : BOp → Operator
  | .add => .Add | .sub => .Sub | .mul => .Mult | .fdiv => .FloorDiv | .mod => .Mod | .pow => .Pow
def rStrAdd : R2 := fun x y H Q => ∃ i j : PySem.Str, x = .str i ∧ y = .str j ∧ i.length + j.length ≤ sizeLine ∧ Q (.str (i ++ j)) H
def rBin (K : PySem.W.Frag) : BOp → R2
  | .add => fun x y H Q => rI0 (fun i j => .int (i + j)) x y H Q ∨ (rStrAdd x y H Q ∨ (rCatA K x y H Q ∨ rCat x y H Q))
  | .sub => rI0 fun i j => .int (i - j)
  | .mul => fun x y H Q => rI CMul (fun i j => .int (i * j)) x y H Q ∨ (rI CMulW (fun i j => .int (i * j)) x y H Q ∨ rRep x y H Q)
  | .fdiv => fun x y H Q => rI CDivN (fun i j => .int (i.fdiv j)) x y H Q ∨ rI CDivW (fun i j => .int (i / j)) x y H Q
  | .mod => rI (fun _ j => j ≠ 0) fun i j => .int (i.fmod j)
  | .pow => rI CPow fun i j => .int (i ^ j.toNat)
theorem op_bin : ∀ op, OpR X (binaryOp (bopP op)) (rBin X.K op)
  | .add => op_add.or (OpR.or op_add_str (OpR.or op_catA op_cat))
  | .sub => op_sub
  | .mul => op_mul.or (op_mulW.or op_rep)
  | .fdiv => op_fdivN.or op_fdivW
  | .mod => op_modN
  | .pow => op_pow
theorem LINE_eq : LINE = sizeLine := sizeLine_eq.symm
section
variable {K : PySem.W.Frag} {Z F H : Hp} {m : Mu}
theorem catS {a b : PySem.Str} : (a ++ b).cps.toList = a.cps.toList ++ b.cps.toList := by
  show (a.cps ++ b.cps).toList = _
  simp
theorem lenS (a : PySem.Str) : a.length = a.cps.toList.length := by
  show a.cps.size = _
  simp
theorem bin_ok {op : BOp} {x y : V} {dx dy : DV} {k : DV → Prop} {Q : VK} (w : Wf K Z F H m) (rx : RelD K F x dx) (ry : RelD K F y dy) (h : binD op (look m dx) (look m dy) k)
    (q : ∀ d v H' F', k d → Ext Z F F' → Wf K Z F' H' m → RelD K F' v d → Q v H') : rBin K op x y H Q := by
  unfold binD at h
  split at h
  · rename_i e1 e2
    exact .inl ⟨_, _, Wf.int rx e1, Wf.int ry e2, q _ _ _ _ h (Ext.refl Z F) w (.int _)⟩
  · rename_i s t e1 e2
    obtain ⟨a, rfl, ea, ca⟩ := Wf.str rx e1
    obtain ⟨b, rfl, eb, cb⟩ := Wf.str ry e2
    refine .inr (.inl ⟨a, b, rfl, rfl, ?_, q _ _ _ _ h.2 (Ext.refl Z F) w ?_⟩)
    · rw [lenS, lenS, ea, eb, ← LINE_eq]; exact h.1
    · have : RelD K F (.str (a ++ b)) (.str (a ++ b).cps.toList) := .str _ (by
        rw [catS, ea, eb]
        intro c hc
        rcases List.mem_append.mp hc with z | z
        · exact ca c z
        · exact cb c z)
      rw [catS, ea, eb] at this
      exact this
  · rename_i s t e1 e2
    obtain ⟨a, xs, rfl, fa, ha, ra, la⟩ := w.tup rx e1
    obtain ⟨b, ys, rfl, fb, hb, rb, lb⟩ := w.tup ry e2
    have l1 := ra.length
    have l2 := rb.length
    refine .inr (.inr (.inl ⟨a, b, xs, ys, rfl, rfl, SqT.of ha, SqT.of hb, by rw [l1, l2, ← LINE_eq]; exact h.1, fun e => ?_, fun _ e => ?_, fun _ _ p hp => ?_⟩))
    · subst e
      cases ra
      exact q _ _ _ _ h.2 (Ext.refl Z F) w (.tup fb rb lb)
    · subst e
      cases rb
      have h2 := h.2
      rw [List.append_nil] at h2
      exact q _ _ _ _ h2 (Ext.refl Z F) w (.tup fa ra la)
    · obtain ⟨w', e'⟩ := w.new hp (.tup (xs ++ ys))
      exact q _ _ _ _ h.2 e' w' (.tup upd_same ((ra.append rb).mono e'.sm) (by rw [List.length_append, l1, l2]; exact h.1))
  · rename_i s t e1 e2
    obtain ⟨a, xs, rfl, ha, ra, la⟩ := w.lst rx e1
    obtain ⟨b, ys, rfl, hb, rb, lb⟩ := w.lst ry e2
    have l1 := ra.length
    have l2 := rb.length
    refine .inr (.inr (.inr ⟨a, b, xs, ys, rfl, rfl, ha, hb, by rw [l1, l2, ← LINE_eq]; exact h.1, fun p hp => ?_⟩))
    obtain ⟨w', e'⟩ := w.new hp (.lst (xs ++ ys))
    exact q _ _ _ _ h.2 e' w' (.lst upd_same ((ra.append rb).mono e'.sm) (by rw [List.length_append, l1, l2]; exact h.1))
  · rename_i e1 e2
    exact ⟨_, _, Wf.int rx e1, Wf.int ry e2, q _ _ _ _ h (Ext.refl Z F) w (.int _)⟩
  · rename_i i j e1 e2
    obtain ⟨h1 | h1, h2⟩ := h
    · exact .inl ⟨_, _, Wf.int rx e1, Wf.int ry e2, h1, q _ _ _ _ h2 (Ext.refl Z F) w (.int _)⟩
    · exact .inr (.inl ⟨_, _, Wf.int rx e1, Wf.int ry e2, wide_mul h1.1 h1.2 (by decide) (by decide) (by decide), q _ _ _ _ h2 (Ext.refl Z F) w (.int _)⟩)
  · rename_i s j e1 e2
    obtain ⟨a, xs, rfl, ha, ra, la⟩ := w.lst rx e1
    obtain ⟨⟨h1, h2, h3⟩, h4⟩ := h
    have l1 := ra.length
    have hz : xs.length * j.toNat ≤ LINE := by
      have : j.toNat ≤ 1000 := by omega
      calc xs.length * j.toNat ≤ 1000 * 1000 := Nat.mul_le_mul (by omega) this
        _ ≤ LINE := by decide
    refine .inr (.inr ⟨a, j, xs, rfl, Wf.int ry e2, ha, by omega, by omega, by rw [← LINE_eq]; exact hz, fun p hp => ?_⟩)
    obtain ⟨w', e'⟩ := w.new hp (.lst (List.replicate j.toNat xs).flatten)
    have rr : ∀ n, RelDs K F (List.replicate n xs).flatten (List.replicate n s).flatten := fun n => by
      induction n with
      | zero => exact .nil
      | succ n ih =>
        rw [List.replicate_succ, List.replicate_succ, List.flatten_cons, List.flatten_cons]
        exact ra.append ih
    refine q _ _ _ _ h4 e' w' (.lst upd_same ((rr _).mono e'.sm) ?_)
    rw [List.length_flatten, List.map_replicate, List.sum_replicate_nat, Nat.mul_comm]
    exact hz
  · rename_i i j e1 e2
    obtain ⟨h1 | h1, h2⟩ := h
    · exact .inl ⟨_, _, Wf.int rx e1, Wf.int ry e2, h1, q _ _ _ _ h2 (Ext.refl Z F) w (.int _)⟩
    · refine .inr ⟨_, _, Wf.int rx e1, Wf.int ry e2, wide_div h1.1 h1.2 (by decide) (by decide), ?_⟩
      have e : i / j = i.fdiv j := (Int.fdiv_eq_ediv_of_nonneg i (Int.le_of_lt h1.1)).symm
      show Q (.int (i / j)) H
      rw [e]
      exact q _ _ _ _ h2 (Ext.refl Z F) w (.int _)
  · rename_i i j e1 e2
    exact ⟨_, _, Wf.int rx e1, Wf.int ry e2, h.1, q _ _ _ _ h.2 (Ext.refl Z F) w (.int _)⟩
  · rename_i i j e1 e2
    exact ⟨_, _, Wf.int rx e1, Wf.int ry e2, ⟨h.1.1, by have := h.1.2.1; omega, h.1.2.2⟩, q _ _ _ _ h.2 (Ext.refl Z F) w (.int _)⟩
  · exact h.elim
/-! comparisons -/
def copP : COp → CmpOp
  | .eq => .Eq | .ne => .NotEq | .lt => .Lt | .le => .LtE | .gt => .Gt | .ge => .GtE | .isin => .In | .notin => .NotIn | .isN => .Is | .notN => .IsNot | .eqT => .Eq | .neT => .NotEq
def rCmp (K : PySem.W.Frag) : COp → R2
  | .eq => rEqD K
  | .ne => rNeD K
  | .lt => fun x y H Q => rI0 (fun i j => .bl (decide (i < j))) x y H Q ∨ (∃ i j : PySem.Str, x = .str i ∧ y = .str j ∧ Q (.bl (decide (i.cps.toList < j.cps.toList))) H)
  | .le => rI0 fun i j => .bl (decide (i ≤ j))
  | .gt => rI0 fun i j => .bl (decide (j < i))
  | .ge => rI0 fun i j => .bl (decide (j ≤ i))
  | .isin => fun x y H Q => rInD K x y H Q ∨ (rInT K x y H Q ∨ (∃ (c : Nat) (z : PySem.Str), x = .str ⟨#[c]⟩ ∧ y = .str z ∧ Q (.bl (decide (c ∈ z.cps.toList))) H))
  | .notin => fun x y H Q => rNotInD K x y H Q ∨ (rNotInT K x y H Q ∨ (∃ (c : Nat) (z : PySem.Str), x = .str ⟨#[c]⟩ ∧ y = .str z ∧ Q (.bl (!decide (c ∈ z.cps.toList))) H))
  | .isN => fun x y H Q => y = .non ∧ Q (.bl (decide (x = .non))) H
  | .notN => fun x y H Q => y = .non ∧ Q (.bl (!decide (x = .non))) H
  | .eqT => rEqW K
  | .neT => rNeW K
theorem op_cmp {k : Nat} (hr : Room k X.A) : ∀ op, OpR X (compareOp (copP op)) (rCmp X.K op)
  | .eq => op_eqD hr.units
  | .ne => op_neD hr.units
  | .lt => op_lt.or op_lt_str
  | .le => op_le
  | .gt => op_gt
  | .ge => op_ge
  | .isin => (op_inD (by have := hr.un; omega)).or ((op_inT (by have := hr.un; omega)).or op_in_sign)
  | .notin => (op_notInD (by have := hr.un; omega)).or ((op_notInT (by have := hr.un; omega)).or op_notIn_sign)
  | .isN => op_isN
  | .notN => op_notN
  | .eqT => op_eqW hr.units
  | .neT => op_neW hr.units
theorem shaped_of {d : DV} (c : (toPy d).canLay0 = true) (p : plain d = true) (h : depth d ≤ 60) : SeqAt.shaped (toPy d) = true := by
  unfold SeqAt.shaped
  rw [c, Bool.true_and]
  exact decide_eq_true (by rw [depth_py d p]; omega)
theorem any_py {d : DV} (p : plain d = true) : ∀ ds : List DV, plains ds = true → ((toPys ds).any fun z => PyData.eqv z (toPy d)) = ds.any fun z => eqv z d
  | [], _ => rfl
  | x :: r, h => by
    simp only [plains, Bool.and_eq_true] at h
    simp only [toPys, List.any_cons]
    rw [eqv_py x d h.1 p, any_py p r h.2]
theorem one_str {x : PySem.Str} {c : Nat} (h : x.cps.toList = [c]) : x = ⟨#[c]⟩ := by
  cases x with
  | mk a =>
    congr 1
    exact Array.toList_inj.mp h
theorem cmp_ok {op : COp} {x y : V} {dx dy : DV} {k : DV → Prop} {Q : VK} (w : Wf K Z F H m) (rx : RelD K F x dx) (ry : RelD K F y dy) (h : cmpD op m (look m dx) (look m dy) k)
    (fin : ∀ b, k (.bl b) → Q (.bl b) H) : rCmp K op x y H Q := by
  have nonI : look m dx = .non ↔ x = .non := by
    constructor
    · exact fun e => Wf.non rx e
    · intro e; subst e; cases rx; rfl
  cases op with
  | eqT => exact ⟨EqT.top w rx ry h.1, fin _ h.2⟩
  | neT => exact ⟨EqT.top w rx ry h.1, fin _ h.2⟩
  | eq =>
    obtain ⟨⟨p1, p2, d1, d2⟩, hk⟩ := h
    obtain ⟨a1, c1⟩ := w.dp rx p1
    obtain ⟨a2, c2⟩ := w.dp ry p2
    refine ⟨_, _, a1, a2, shaped_of c1 p1 d1, shaped_of c2 p2 d2, ?_⟩
    rw [eqv_py _ _ p1 p2]
    exact fin _ hk
  | ne =>
    obtain ⟨⟨p1, p2, d1, d2⟩, hk⟩ := h
    obtain ⟨a1, c1⟩ := w.dp rx p1
    obtain ⟨a2, c2⟩ := w.dp ry p2
    refine ⟨_, _, a1, a2, shaped_of c1 p1 d1, shaped_of c2 p2 d2, ?_⟩
    rw [eqv_py _ _ p1 p2]
    exact fin _ hk
  | lt =>
    simp only [cmpD] at h
    split at h
    · rename_i e1 e2
      exact .inl ⟨_, _, Wf.int rx e1, Wf.int ry e2, fin _ h⟩
    · rename_i e1 e2
      obtain ⟨a, rfl, ea, _⟩ := Wf.str rx e1
      obtain ⟨b, rfl, eb, _⟩ := Wf.str ry e2
      refine .inr ⟨_, _, rfl, rfl, ?_⟩
      rw [ea, eb]
      exact fin _ h
    · exact h.elim
  | le =>
    simp only [cmpD] at h
    split at h
    · rename_i e1 e2
      exact ⟨_, _, Wf.int rx e1, Wf.int ry e2, fin _ h⟩
    · exact h.elim
  | gt =>
    simp only [cmpD] at h
    split at h
    · rename_i e1 e2
      exact ⟨_, _, Wf.int rx e1, Wf.int ry e2, fin _ h⟩
    · exact h.elim
  | ge =>
    simp only [cmpD] at h
    split at h
    · rename_i e1 e2
      exact ⟨_, _, Wf.int rx e1, Wf.int ry e2, fin _ h⟩
    · exact h.elim
  | isin =>
    simp only [cmpD] at h
    split at h
    · rename_i ys e2
      obtain ⟨⟨p1, p2, d1, d2⟩, hk⟩ := h
      have p2' : plain (look m dy) = true := by rw [e2]; simpa [plain] using p2
      obtain ⟨a1, c1⟩ := w.dp rx p1
      obtain ⟨a2, c2⟩ := w.dp ry p2'
      rw [e2] at a2 c2 p2'
      refine .inl ⟨_, _, a1, by simpa only [toPy] using a2, shaped_of c1 p1 d1, by have := shaped_of c2 p2' (by simp only [depth]; omega); simpa only [toPy] using this, ?_⟩
      rw [any_py p1 ys p2]
      exact fin _ hk
    · rename_i ys e2
      obtain ⟨⟨p1, p2, d1, d2⟩, hk⟩ := h
      have p2' : plain (look m dy) = true := by rw [e2]; simpa [plain] using p2
      obtain ⟨a1, c1⟩ := w.dp rx p1
      obtain ⟨a2, c2⟩ := w.dp ry p2'
      rw [e2] at a2 c2 p2'
      refine .inr (.inl ⟨_, _, a1, by simpa only [toPy] using a2, shaped_of c1 p1 d1, by have := shaped_of c2 p2' (by simp only [depth]; omega); simpa only [toPy] using this, ?_⟩)
      rw [any_py p1 ys p2]
      exact fin _ hk
    · rename_i z e2
      split at h
      · rename_i c e1
        obtain ⟨a, rfl, ea, _⟩ := Wf.str rx e1
        obtain ⟨b, rfl, eb, _⟩ := Wf.str ry e2
        refine .inr (.inr ⟨c, b, by rw [one_str ea], rfl, ?_⟩)
        rw [eb]
        exact fin _ h
      · exact h.elim
    · exact h.elim
  | notin =>
    simp only [cmpD] at h
    split at h
    · rename_i ys e2
      obtain ⟨⟨p1, p2, d1, d2⟩, hk⟩ := h
      have p2' : plain (look m dy) = true := by rw [e2]; simpa [plain] using p2
      obtain ⟨a1, c1⟩ := w.dp rx p1
      obtain ⟨a2, c2⟩ := w.dp ry p2'
      rw [e2] at a2 c2 p2'
      refine .inl ⟨_, _, a1, by simpa only [toPy] using a2, shaped_of c1 p1 d1, by have := shaped_of c2 p2' (by simp only [depth]; omega); simpa only [toPy] using this, ?_⟩
      rw [any_py p1 ys p2]
      exact fin _ hk
    · rename_i ys e2
      obtain ⟨⟨p1, p2, d1, d2⟩, hk⟩ := h
      have p2' : plain (look m dy) = true := by rw [e2]; simpa [plain] using p2
      obtain ⟨a1, c1⟩ := w.dp rx p1
      obtain ⟨a2, c2⟩ := w.dp ry p2'
      rw [e2] at a2 c2 p2'
      refine .inr (.inl ⟨_, _, a1, by simpa only [toPy] using a2, shaped_of c1 p1 d1, by have := shaped_of c2 p2' (by simp only [depth]; omega); simpa only [toPy] using this, ?_⟩)
      rw [any_py p1 ys p2]
      exact fin _ hk
    · rename_i z e2
      split at h
      · rename_i c e1
        obtain ⟨a, rfl, ea, _⟩ := Wf.str rx e1
        obtain ⟨b, rfl, eb, _⟩ := Wf.str ry e2
        refine .inr (.inr ⟨c, b, by rw [one_str ea], rfl, ?_⟩)
        rw [eb]
        exact fin _ h
      · exact h.elim
    · exact h.elim
  | isN =>
    obtain ⟨h1, h2⟩ := h
    have e2 : look m dy = .non := by
      cases e : look m dy <;> simp_all [isNonD]
    refine ⟨Wf.non ry e2, ?_⟩
    have e : decide (x = V.non) = isNonD (look m dx) := by
      by_cases hx : x = .non
      · rw [decide_eq_true hx, nonI.mpr hx]
        rfl
      · rw [decide_eq_false hx]
        have : look m dx ≠ .non := fun z => hx (nonI.mp z)
        cases e : look m dx <;> simp_all [isNonD]
    rw [e]
    exact fin _ h2
  | notN =>
    obtain ⟨h1, h2⟩ := h
    have e2 : look m dy = .non := by
      cases e : look m dy <;> simp_all [isNonD]
    refine ⟨Wf.non ry e2, ?_⟩
    have e : decide (x = V.non) = isNonD (look m dx) := by
      by_cases hx : x = .non
      · rw [decide_eq_true hx, nonI.mpr hx]
        rfl
      · rw [decide_eq_false hx]
        have : look m dx ≠ .non := fun z => hx (nonI.mp z)
        cases e : look m dx <;> simp_all [isNonD]
    rw [e]
    exact fin _ h2
end
end
end DL

set_option Elab.async false
set_option linter.all false
set_option maxRecDepth 100000
set_option maxHeartbeats 2000000
namespace DL
open PySem L2
section
variable {X : Cx} {G : Nat → Option Fn} {fld : Nat → Addr × PySem.Str} {W : WX} {a b c : Expr} {ma mb mc : Ex} {pos : Pos}
theorem s_var {i : Nat} {x : PySem.Str} (h : PE X (.Name x pos) (tVar i)) : PE X (.Name x pos) (tL X.K G fld W (.var i)) := by
  refine PEimp h fun σ H Q ⟨r, m, Z, F, Qd, Ed, w, sl, ⟨d, hd, hq⟩, post, xp⟩ => ?_
  obtain ⟨v, hv, rv⟩ := sl.at_ i d hd
  exact ⟨v, hv, post d m v H F hq (Ext.refl Z F) w rv⟩
theorem s_cst {e : Expr} {v : V} {d : DV} (h : PE X e (tC v)) (hr : ∀ F, RelD X.K F v d) : PE X e (tL X.K G fld W (.cst d)) :=
  PEimp h fun σ H Q ⟨r, m, Z, F, Qd, Ed, w, sl, hq, post, xp⟩ => post d m v H F hq (Ext.refl Z F) w (hr F)
theorem s_bin {op : BOp} (ha : PE X a (tL X.K G fld W ma)) (hb : PE X b (tL X.K G fld W mb)) : PE X (.BinOp a (bopP op) b pos) (tL X.K G fld W (.bin op ma mb)) := by
  refine PEimp (pe_op (op_bin op) ha hb) fun σ H Q ⟨r, m, Z, F, Qd, Ed, w, sl, hq, post, xp⟩ => ?_
  simp only [rdE] at hq
  refine ⟨r, m, Z, F, _, Ed, w, sl, hq, fun d1 m1 v1 H1 F1 q1 e1 w1 r1 => ?_, xp⟩
  refine ⟨r, m1, Z, F1, _, Ed, w1, sl.mono e1.sm, q1, fun d2 m2 v2 H2 F2 q2 e2 w2 r2 => ?_, xp.ext e1⟩
  exact bin_ok w2 (r1.mono e2.sm) r2 q2 fun d v H' F' hk e' w' r' => post d m2 v H' F' hk (e1.trans (e2.trans e')) w' r'
theorem s_neg (ha : PE X a (tL X.K G fld W ma)) : PE X (.UnaryOp .USub a pos) (tL X.K G fld W (.neg ma)) := by
  refine PEimp (pe_un un_neg ha) fun σ H Q ⟨r, m, Z, F, Qd, Ed, w, sl, hq, post, xp⟩ => ?_
  simp only [rdE] at hq
  refine ⟨r, m, Z, F, _, Ed, w, sl, hq, fun d1 m1 v1 H1 F1 q1 e1 w1 r1 => ?_, xp⟩
  obtain ⟨i, rfl, q⟩ := q1
  cases r1
  exact ⟨i, rfl, post _ m1 _ H1 F1 q e1 w1 (.int _)⟩
theorem s_cmp {k : Nat} {op : COp} (hr : Room k X.A) (ha : PE X a (tL X.K G fld W ma)) (hb : PE X b (tL X.K G fld W mb)) (hm : behindInMarks (copP op) b = false) : PE X (.Compare a [copP op] [b] pos) (tL X.K G fld W (.cmp op ma mb)) := by
  refine PEimp (pe_cmpR (op_cmp hr op) ha hb hm) fun σ H Q ⟨r, m, Z, F, Qd, Ed, w, sl, hq, post, xp⟩ => ?_
  simp only [rdE] at hq
  refine ⟨r, m, Z, F, _, Ed, w, sl, hq, fun d1 m1 v1 H1 F1 q1 e1 w1 r1 => ?_, xp⟩
  refine ⟨r, m1, Z, F1, _, Ed, w1, sl.mono e1.sm, q1, fun d2 m2 v2 H2 F2 q2 e2 w2 r2 => ?_, xp.ext e1⟩
  exact cmp_ok w2 (r1.mono e2.sm) r2 q2 fun b hk => post (.bl b) m2 (.bl b) H2 F2 hk (e1.trans e2) w2 (.bl b)
theorem s_cmpT {k : Nat} {op : COp} (hr : Room k X.A) (ha : PE X a (tL X.K G fld W ma)) (hb : PE X b (tL X.K G fld W mb)) (hm : behindInMarks (copP op) b = false) : PT X (.Compare a [copP op] [b] pos) (tLT X.K G fld W (.ex (.cmp op ma mb))) := by
  refine PTimp (pt_cmpR (op_cmp hr op) ha hb hm) fun σ H Q ⟨r, m, Z, F, Qd, Ed, w, sl, hq, post, xp⟩ => ?_
  simp only [rdT, rdE] at hq
  refine ⟨r, m, Z, F, _, Ed, w, sl, hq, fun d1 m1 v1 H1 F1 q1 e1 w1 r1 => ?_, xp⟩
  refine ⟨r, m1, Z, F1, _, Ed, w1, sl.mono e1.sm, q1, fun d2 m2 v2 H2 F2 q2 e2 w2 r2 => ?_, xp.ext e1⟩
  refine cmp_ok w2 (r1.mono e2.sm) r2 q2 fun b hk => ?_
  obtain ⟨c, hc, hk⟩ := hk
  cases hc
  exact ⟨b, rfl, post b m2 b H2 F2 hk (e1.trans e2) w2 rfl⟩
theorem s_cmp2 {k : Nat} {op op' : COp} (hr : Room k X.A) (ha : PE X a (tL X.K G fld W ma)) (hb : PE X b (tL X.K G fld W mb)) (hc : PE X c (tL X.K G fld W mc)) (hm : lastMarks [copP op, copP op'] [b, c] = false) :
    PE X (.Compare a [copP op, copP op'] [b, c] pos) (tL X.K G fld W (.cmp2 op op' ma mb mc)) := by
  refine PEimp (pe_chain (op_cmp hr op) (op_cmp hr op') ha hb hc hm) fun σ H Q ⟨r, m, Z, F, Qd, Ed, w, sl, hq, post, xp⟩ => ?_
  simp only [rdE] at hq
  refine ⟨r, m, Z, F, _, Ed, w, sl, hq, fun d1 m1 v1 H1 F1 q1 e1 w1 r1 => ?_, xp⟩
  refine ⟨r, m1, Z, F1, _, Ed, w1, sl.mono e1.sm, q1, fun d2 m2 v2 H2 F2 q2 e2 w2 r2 => ?_, xp.ext e1⟩
  refine cmp_ok w2 (r1.mono e2.sm) r2 q2 fun b hk => ?_
  obtain ⟨c, hc, hk⟩ := hk
  cases hc
  refine ⟨b, rfl, ?_⟩
  cases b with
  | false => exact post _ m2 _ H2 F2 (by simpa using hk) (e1.trans e2) w2 (.bl _)
  | true =>
    refine ⟨r, m2, Z, F2, _, Ed, w2, sl.mono (e1.trans e2).sm, by simpa using hk, fun d3 m3 v3 H3 F3 q3 e3 w3 r3 => ?_, xp.ext (e1.trans e2)⟩
    exact cmp_ok w3 (r2.mono e3.sm) r3 q3 fun b hk => post (.bl b) m3 (.bl b) H3 F3 hk (e1.trans (e2.trans e3)) w3 (.bl b)
theorem s_notv (ha : PE X a (tL X.K G fld W ma)) : PE X (.UnaryOp .Not a pos) (tL X.K G fld W (.notv ma)) := by
  refine PEimp (pe_not ha) fun σ H Q ⟨r, m, Z, F, Qd, Ed, w, sl, hq, post, xp⟩ => ?_
  simp only [rdE] at hq
  refine ⟨r, m, Z, F, _, Ed, w, sl, hq, fun d1 m1 v1 H1 F1 q1 e1 w1 r1 => ?_, xp⟩
  obtain ⟨c, rfl, q⟩ := q1
  cases r1
  exact ⟨c, rfl, post _ m1 _ H1 F1 q e1 w1 (.bl _)⟩
theorem s_andv {rest : List Expr} (ha : PE X a (tL X.K G fld W ma)) (hb : PE X (.BoolOp .And (b :: rest) pos) (tL X.K G fld W mb)) : PE X (.BoolOp .And (a :: b :: rest) pos) (tL X.K G fld W (.andv ma mb)) := by
  refine PEimp (pe_and ha hb) fun σ H Q ⟨r, m, Z, F, Qd, Ed, w, sl, hq, post, xp⟩ => ?_
  simp only [rdE] at hq
  refine ⟨r, m, Z, F, _, Ed, w, sl, hq, fun d1 m1 v1 H1 F1 q1 e1 w1 r1 => ?_, xp⟩
  obtain ⟨c, rfl, q⟩ := q1
  cases r1
  refine ⟨c, rfl, ?_⟩
  cases c with
  | true => exact ⟨r, m1, Z, F1, _, Ed, w1, sl.mono e1.sm, by simpa using q, fun d2 m2 v2 H2 F2 q2 e2 w2 r2 => post d2 m2 v2 H2 F2 q2 (e1.trans e2) w2 r2, xp.ext e1⟩
  | false => exact post _ m1 _ H1 F1 (by simpa using q) e1 w1 (.bl _)
theorem s_orv {rest : List Expr} (ha : PE X a (tL X.K G fld W ma)) (hb : PE X (.BoolOp .Or (b :: rest) pos) (tL X.K G fld W mb)) : PE X (.BoolOp .Or (a :: b :: rest) pos) (tL X.K G fld W (.orv ma mb)) := by
  refine PEimp (pe_or ha hb) fun σ H Q ⟨r, m, Z, F, Qd, Ed, w, sl, hq, post, xp⟩ => ?_
  simp only [rdE] at hq
  refine ⟨r, m, Z, F, _, Ed, w, sl, hq, fun d1 m1 v1 H1 F1 q1 e1 w1 r1 => ?_, xp⟩
  obtain ⟨c, rfl, q⟩ := q1
  cases r1
  refine ⟨c, rfl, ?_⟩
  cases c with
  | false => exact ⟨r, m1, Z, F1, _, Ed, w1, sl.mono e1.sm, by simpa using q, fun d2 m2 v2 H2 F2 q2 e2 w2 r2 => post d2 m2 v2 H2 F2 q2 (e1.trans e2) w2 r2, xp.ext e1⟩
  | true => exact post _ m1 _ H1 F1 (by simpa using q) e1 w1 (.bl _)
variable {ta tb : Ts}
theorem s_ife (ht : PT X c (tLT X.K G fld W ta)) (ha : PE X a (tL X.K G fld W ma)) (hb : PE X b (tL X.K G fld W mb)) : PE X (.IfExp c a b pos) (tL X.K G fld W (.ife ta ma mb)) := by
  refine PEimp (pe_ifExp ht ha hb) fun σ H Q ⟨r, m, Z, F, Qd, Ed, w, sl, hq, post, xp⟩ => ?_
  simp only [rdE] at hq
  refine ⟨r, m, Z, F, _, Ed, w, sl, hq, fun d1 m1 v1 H1 F1 q1 e1 w1 r1 => ?_, xp⟩
  cases r1
  cases d1 with
  | true => exact ⟨r, m1, Z, F1, _, Ed, w1, sl.mono e1.sm, by simpa using q1, fun d2 m2 v2 H2 F2 q2 e2 w2 r2 => post d2 m2 v2 H2 F2 q2 (e1.trans e2) w2 r2, xp.ext e1⟩
  | false => exact ⟨r, m1, Z, F1, _, Ed, w1, sl.mono e1.sm, by simpa using q1, fun d2 m2 v2 H2 F2 q2 e2 w2 r2 => post d2 m2 v2 H2 F2 q2 (e1.trans e2) w2 r2, xp.ext e1⟩
/-! tests -/
theorem s_tand {rest : List Expr} (ha : PT X a (tLT X.K G fld W ta)) (hb : PW X (.BoolOp .And (b :: rest) pos) (tLT X.K G fld W tb)) : PW X (.BoolOp .And (a :: b :: rest) pos) (tLT X.K G fld W (.and ta tb)) := by
  refine PWimp (pw_and ha hb) fun σ H Q ⟨r, m, Z, F, Qd, Ed, w, sl, hq, post, xp⟩ => ?_
  simp only [rdT] at hq
  refine ⟨r, m, Z, F, _, Ed, w, sl, hq, fun d1 m1 v1 H1 F1 q1 e1 w1 r1 => ?_, xp⟩
  cases r1
  cases d1 with
  | true => exact ⟨r, m1, Z, F1, _, Ed, w1, sl.mono e1.sm, by simpa using q1, fun d2 m2 v2 H2 F2 q2 e2 w2 r2 => post d2 m2 v2 H2 F2 q2 (e1.trans e2) w2 r2, xp.ext e1⟩
  | false => exact post false m1 false H1 F1 (by simpa using q1) e1 w1 rfl
theorem s_tor {rest : List Expr} (ha : PT X a (tLT X.K G fld W ta)) (hb : PW X (.BoolOp .Or (b :: rest) pos) (tLT X.K G fld W tb)) : PW X (.BoolOp .Or (a :: b :: rest) pos) (tLT X.K G fld W (.or ta tb)) := by
  refine PWimp (pw_or ha hb) fun σ H Q ⟨r, m, Z, F, Qd, Ed, w, sl, hq, post, xp⟩ => ?_
  simp only [rdT] at hq
  refine ⟨r, m, Z, F, _, Ed, w, sl, hq, fun d1 m1 v1 H1 F1 q1 e1 w1 r1 => ?_, xp⟩
  cases r1
  cases d1 with
  | false => exact ⟨r, m1, Z, F1, _, Ed, w1, sl.mono e1.sm, by simpa using q1, fun d2 m2 v2 H2 F2 q2 e2 w2 r2 => post d2 m2 v2 H2 F2 q2 (e1.trans e2) w2 r2, xp.ext e1⟩
  | true => exact post true m1 true H1 F1 (by simpa using q1) e1 w1 rfl
theorem s_tnot (ha : PT X a (tLT X.K G fld W ta)) : PT X (.UnaryOp .Not a pos) (tLT X.K G fld W (.not ta)) := by
  refine PTimp (pt_not ha) fun σ H Q ⟨r, m, Z, F, Qd, Ed, w, sl, hq, post, xp⟩ => ?_
  simp only [rdT] at hq
  refine ⟨r, m, Z, F, _, Ed, w, sl, hq, fun d1 m1 v1 H1 F1 q1 e1 w1 r1 => ?_, xp⟩
  cases r1
  exact post (!d1) m1 (!d1) H1 F1 q1 e1 w1 rfl
theorem tru_ok {K : PySem.W.Frag} {Z F H : Hp} {m : Mu} {v : V} {d : DV} {b : Bool} (w : Wf K Z F H m) (r : RelD K F v d) (h : truD (look m d) = some b) : TruV K v H b := by
  cases e : look m d with
  | non => rw [e] at h; cases h; cases Wf.non r e; rfl
  | bl q => rw [e] at h; cases h; cases Wf.bl r e; rfl
  | int q => rw [e] at h; cases h; cases Wf.int r e; rfl
  | lst q =>
    rw [e] at h; cases h
    obtain ⟨x, vs, rfl, hx, rs, _⟩ := w.lst r e
    refine .inl ⟨vs, SqL.of hx, ?_⟩
    cases rs <;> rfl
  | tup q =>
    rw [e] at h; cases h
    obtain ⟨x, vs, rfl, _, hx, rs, _⟩ := w.tup r e
    refine .inr (.inl ⟨vs, SqT.of hx, ?_⟩)
    cases rs <;> rfl
  | _ => rw [e] at h; cases h
end
end DL

set_option Elab.async false
set_option linter.all false
set_option maxRecDepth 100000
set_option maxHeartbeats 2000000
namespace DL
open PySem L2
section
variable {X : Cx} {G : Nat → Option Fn} {fld : Nat → Addr × PySem.Str} {W : WX} {a b c : Expr} {ma mb mc : Ex} {pos : Pos}
/-! arguments, displays -/
theorem s_anil : PA X [] (tLA X.K G fld W .nil) := PAimp pa_nil fun σ H Q ⟨r, m, Z, F, Qd, Ed, w, sl, hq, post, xp⟩ => post [] m [] H F hq (Ext.refl Z F) w .nil
theorem s_acons {es : List Expr} {ms : Exs} (ha : PE X a (tL X.K G fld W ma)) (hb : PA X es (tLA X.K G fld W ms)) (hs : starEach (a :: es) X.env = (false, eval a X.env) :: starEach es X.env) : PA X (a :: es) (tLA X.K G fld W (.cons ma ms)) := by
  refine PAimp (pa_cons ha hb hs) fun σ H Q ⟨r, m, Z, F, Qd, Ed, w, sl, hq, post, xp⟩ => ?_
  simp only [rdA] at hq
  refine ⟨r, m, Z, F, _, Ed, w, sl, hq, fun d1 m1 v1 H1 F1 q1 e1 w1 r1 => ?_, xp⟩
  exact ⟨r, m1, Z, F1, _, Ed, w1, sl.mono e1.sm, q1, fun d2 m2 v2 H2 F2 q2 e2 w2 r2 => post _ m2 _ H2 F2 q2 (e1.trans e2) w2 (.cons (r1.mono e2.sm) r2), xp.ext e1⟩
theorem s_inil : PA X [] (tLI X.K G fld W .nil) := PAimp pa_nil fun σ H Q ⟨r, m, Z, F, Qd, Ed, w, sl, hq, post, xp⟩ => post [] m [] H F hq (Ext.refl Z F) w .nil
theorem s_icons {es : List Expr} {ms : Its} (ha : PE X a (tL X.K G fld W ma)) (hb : PA X es (tLI X.K G fld W ms)) (hs : starEach (a :: es) X.env = (false, eval a X.env) :: starEach es X.env) : PA X (a :: es) (tLI X.K G fld W (.one ma ms)) := by
  refine PAimp (pa_cons ha hb hs) fun σ H Q ⟨r, m, Z, F, Qd, Ed, w, sl, hq, post, xp⟩ => ?_
  simp only [rdI] at hq
  refine ⟨r, m, Z, F, _, Ed, w, sl, hq, fun d1 m1 v1 H1 F1 q1 e1 w1 r1 => ?_, xp⟩
  exact ⟨r, m1, Z, F1, _, Ed, w1, sl.mono e1.sm, q1, fun d2 m2 v2 H2 F2 q2 e2 w2 r2 => post _ m2 _ H2 F2 q2 (e1.trans e2) w2 (.cons (r1.mono e2.sm) r2), xp.ext e1⟩
theorem s_istar {es : List Expr} {ms : Its} {p : Pos} (ha : PE X a (tL X.K G fld W ma)) (hb : PA X es (tLI X.K G fld W ms)) : PA X (.Starred a p :: es) (tLI X.K G fld W (.star ma ms)) := by
  refine PAimp (StX.pa_star ha hb) fun σ H Q ⟨r, m, Z, F, Qd, Ed, w, sl, hq, post, xp⟩ => ?_
  simp only [rdI] at hq
  refine ⟨r, m, Z, F, _, Ed, w, sl, hq, fun d1 m1 v1 H1 F1 q1 e1 w1 r1 => ?_, xp⟩
  obtain ⟨xs, hx, q⟩ := q1
  rcases hx with hx | hx
  · obtain ⟨p, vs, rfl, hp, rs, _⟩ := w1.lst r1 hx
    exact ⟨p, vs, rfl, .inr (SqL.of hp), ⟨r, m1, Z, F1, _, Ed, w1, sl.mono e1.sm, q, fun d2 m2 v2 H2 F2 q2 e2 w2 r2 => post _ m2 _ H2 F2 q2 (e1.trans e2) w2 ((rs.mono e2.sm).append r2), xp.ext e1⟩⟩
  · obtain ⟨p, vs, rfl, _, hp, rs, _⟩ := w1.tup r1 hx
    exact ⟨p, vs, rfl, .inl (SqT.of hp), ⟨r, m1, Z, F1, _, Ed, w1, sl.mono e1.sm, q, fun d2 m2 v2 H2 F2 q2 e2 w2 r2 => post _ m2 _ H2 F2 q2 (e1.trans e2) w2 ((rs.mono e2.sm).append r2), xp.ext e1⟩⟩
theorem s_tup {es : List Expr} {ms : Its} {k : Nat} (h : PA X es (tLI X.K G fld W ms)) : PE X (.Tuple es k pos) (tL X.K G fld W (.tup ms)) := by
  refine PEimp (pe_tup h) fun σ H Q ⟨r, m, Z, F, Qd, Ed, w, sl, hq, post, xp⟩ => ?_
  simp only [rdE] at hq
  refine ⟨r, m, Z, F, _, Ed, w, sl, hq, fun d1 m1 v1 H1 F1 q1 e1 w1 r1 => ⟨?_, fun p hp => ?_⟩, xp⟩
  · rw [r1.length, ← LINE_eq]; exact q1.1
  · obtain ⟨w', e'⟩ := w1.new hp (.tup v1)
    exact post _ m1 _ _ _ q1.2 (e1.trans e') w' (.tup upd_same (r1.mono e'.sm) (by rw [r1.length]; exact q1.1))
/-! a new list, not yet frozen: p the place -/
def FreshL (K : PySem.W.Frag) (Z F H : Hp) (m : Mu) (v : V) (d : DV) : Prop := ∃ p vs ds, v = .ref p ∧ d = .lst ds ∧ H p = some (.lst vs) ∧ F p = none ∧ Z p = none ∧ m p = none ∧ RelDs K F vs ds ∧ vs.length ≤ LINE
/-- the reading of an expression that makes a new list -/
def tN (K : PySem.W.Frag) (G : Nat → Option Fn) (fld : Nat → Addr × PySem.Str) (W : WX) (e : Ex) : TE := fun σ H Q =>
  ∃ r m Z F Qd Ed, Wf K Z F H m ∧ Slots K F σ r ∧ rdE G e r m Qd Ed ∧
    (∀ d m' v H' F', Qd d m' → Ext Z F F' → Wf K Z F' H' m' → FreshL K Z F' H' m' v d → Q v H') ∧ XOk K fld W Z F σ Ed
theorem Wf.freeze {K : PySem.W.Frag} {Z F H : Hp} {m : Mu} {p : Addr} {o : HO} (w : Wf K Z F H m) (h : H p = some o) (hf : F p = none) (hz : Z p = none) (hm : m p = none) : Wf K Z (upd F p o) H m ∧ Ext Z F (upd F p o) := by
  refine ⟨⟨fun b u e => ?_, w.sz, fun q u e => ?_⟩, same_put hf, fun b u e => ?_⟩
  · by_cases hb : b = p
    · subst hb; rw [upd_same] at e; cases e; exact h
    · rw [upd_ne hb] at e; exact w.sf b u e
  · obtain ⟨a1, a2, a3⟩ := w.ob q u e
    have hq : q ≠ p := fun z => by subst z; rw [hm] at e; cases e
    exact ⟨by rw [upd_ne hq]; exact a1, a2, a3.mono (same_put hf) fun _ h => h⟩
  · by_cases hb : b = p
    · subst hb; exact .inr hz
    · rw [upd_ne hb] at e; exact .inl e
theorem PE.frozen {e : Expr} {me : Ex} (h : PE X e (tN X.K G fld W me)) : PE X e (tL X.K G fld W me) := by
  refine PEimp h fun σ H Q ⟨r, m, Z, F, Qd, Ed, w, sl, hq, post, xp⟩ => ⟨r, m, Z, F, Qd, Ed, w, sl, hq, fun d m' v H' F' q e' w' fr => ?_, xp⟩
  obtain ⟨p, vs, ds, rfl, rfl, hp, hf, hz, hm, rs, hl⟩ := fr
  obtain ⟨w2, e2⟩ := w'.freeze hp hf hz hm
  exact post _ m' _ H' _ q (e'.trans e2) w2 (.lst upd_same (rs.mono e2.sm) hl)
theorem PE.owned {e : Expr} {me : Ex} (h : PE X e (tN X.K G fld W me)) : PE X e (tL X.K G fld W (.own me)) := by
  refine PEimp h fun σ H Q ⟨r, m, Z, F, Qd, Ed, w, sl, hq, post, xp⟩ => ?_
  simp only [rdE] at hq
  refine ⟨r, m, Z, F, _, Ed, w, sl, hq, fun d m' v H' F' q e' w' fr => ?_, xp⟩
  obtain ⟨p, vs, ds, rfl, rfl, hp, hf, hz, hm, rs, hl⟩ := fr
  have q2 := q p hm
  refine post _ _ _ H' F' q2 e' ?_ (.loc p)
  refine ⟨w'.sf, w'.sz, fun b u e => ?_⟩
  unfold Mu.put at e
  by_cases hb : b = p
  · subst hb
    rw [if_pos rfl] at e
    cases e
    exact ⟨hf, hz, vs, hp, rs, hl⟩
  · rw [if_neg hb] at e
    exact w'.ob b u e
theorem Wf.fresh {K : PySem.W.Frag} {Z F H : Hp} {m : Mu} {p : Addr} {vs : List V} {ds : List DV} (w : Wf K Z F H m) (hp : H p = none) (r : RelDs K F vs ds) (hl : vs.length ≤ LINE) :
    Wf K Z F (upd H p (.lst vs)) m ∧ FreshL K Z F (upd H p (.lst vs)) m (.ref p) (.lst ds) := by
  have hf : F p = none := sub_none w.sf hp
  have hz : Z p = none := sub_none w.sz hp
  have hm : m p = none := by
    cases e : m p with
    | none => rfl
    | some o =>
      obtain ⟨x, hx⟩ := (w.ob p o e).2.2.some
      rw [hp] at hx; cases hx
  refine ⟨⟨fun b u e => ?_, fun b u e => ?_, fun q v e => ?_⟩, p, vs, ds, rfl, rfl, upd_same, hf, hz, hm, r, hl⟩
  · rw [upd_ne (ne_of_none e hf)]; exact w.sf b u e
  · rw [upd_ne (ne_of_none e hz)]; exact w.sz b u e
  · obtain ⟨a1, a2, a3⟩ := w.ob q v e
    obtain ⟨x, hx⟩ := a3.some
    exact ⟨a1, a2, a3.mono (fun _ _ h => h) fun u hu => by rw [upd_ne (ne_of_none hx hp)]; exact hu⟩
theorem n_lst {es : List Expr} {ms : Its} (h : PA X es (tLI X.K G fld W ms)) : PE X (.List es pos) (tN X.K G fld W (.lst ms)) := by
  refine PEimp (pe_lst h) fun σ H Q ⟨r, m, Z, F, Qd, Ed, w, sl, hq, post, xp⟩ => ?_
  simp only [rdE] at hq
  refine ⟨r, m, Z, F, _, Ed, w, sl, hq, fun d1 m1 v1 H1 F1 q1 e1 w1 r1 => ⟨?_, fun p hp => ?_⟩, xp⟩
  · rw [r1.length, ← LINE_eq]; exact q1.1
  · obtain ⟨w', fr⟩ := w1.fresh hp r1 (by rw [r1.length]; exact q1.1)
    exact post _ m1 _ _ _ q1.2 e1 w' fr
/-! subscripts -/
theorem atI_atD {α : Type} (xs : List α) (i : Int) : atI xs i = atD xs i := rfl
theorem s_sub (ha : PE X a (tL X.K G fld W ma)) (hb : PE X b (tL X.K G fld W mb)) (hp : PlainIx b) : PE X (.Subscript a b pos) (tL X.K G fld W (.sub ma mb)) := by
  refine PEimp (pe_ix ix_seq ha hb hp) fun σ H Q ⟨r, m, Z, F, Qd, Ed, w, sl, hq, post, xp⟩ => ?_
  simp only [rdE] at hq
  refine ⟨r, m, Z, F, _, Ed, w, sl, hq, fun d1 m1 v1 H1 F1 q1 e1 w1 r1 => ?_, xp⟩
  refine ⟨r, m1, Z, F1, _, Ed, w1, sl.mono e1.sm, q1, fun d2 m2 v2 H2 F2 q2 e2 w2 r2 => ?_, xp.ext e1⟩
  have r1' := r1.mono e2.sm
  have at_ : ∀ {vs : List V} {ds : List DV} {i : Int} {x : DV}, RelDs X.K F2 vs ds → atD ds i = some x → ∃ y, atI vs i = some y ∧ RelD X.K F2 y x := fun {vs ds i x} rs h => by
    unfold atD at h
    unfold atI
    rw [rs.length]
    cases e : ixN ds.length i with
    | none =>
      have : idx ds.length i = none := e
      rw [this] at h
      cases h
    | some j =>
      have : idx ds.length i = some j := e
      rw [this] at h
      obtain ⟨y, h1, h2⟩ := rs.get h
      exact ⟨y, h1, h2⟩
  unfold subD at q2
  split at q2
  · rename_i xs i e
    obtain ⟨x, hx, hk⟩ := q2
    obtain ⟨p, vs, rfl, hp, rs, _⟩ := w2.lst r1' e
    obtain ⟨y, h1, h2⟩ := at_ rs hx
    cases r2
    exact .inl ⟨p, vs, i, y, rfl, rfl, SqL.of hp, h1, post x m2 y H2 F2 hk (e1.trans e2) w2 h2⟩
  · rename_i xs i e
    obtain ⟨x, hx, hk⟩ := q2
    obtain ⟨p, vs, rfl, _, hp, rs, _⟩ := w2.tup r1' e
    obtain ⟨y, h1, h2⟩ := at_ rs hx
    cases r2
    exact .inr (.inl ⟨p, vs, i, y, rfl, rfl, SqT.of hp, h1, post x m2 y H2 F2 hk (e1.trans e2) w2 h2⟩)
  · rename_i xs i e
    obtain ⟨hl, x, hx, hk⟩ := q2
    obtain ⟨z, rfl, ez, cz⟩ := Wf.str r1' e
    cases r2
    refine .inr (.inr ⟨z, i, x, rfl, rfl, by rw [lenS, ez, ← LINE_eq]; exact hl, by rw [ez]; exact hx, post _ m2 _ H2 F2 hk (e1.trans e2) w2 ?_⟩)
    have hm : x ∈ xs := by
      unfold atD at hx
      cases e : idx xs.length i with
      | none => rw [e] at hx; cases hx
      | some j => rw [e] at hx; exact List.mem_of_getElem? hx
    have h := RelD.str (K := X.K) (F := F2) ⟨#[x]⟩ (fun c hc => by
      have : c = x := by simpa using hc
      rw [this]; exact cz x hm)
    exact h
  · exact q2.elim
/-! slices -/
theorem s_onone : PO X none (tLO X.K G fld W .none) := POimp po_none fun σ H Q ⟨r, m, Z, F, Qd, Ed, w, sl, hq, post, xp⟩ => post none m none H F hq (Ext.refl Z F) w rfl
theorem s_osome (ha : PE X a (tL X.K G fld W ma)) : PO X (some a) (tLO X.K G fld W (.some ma)) := by
  refine POimp (po_some ha) fun σ H Q ⟨r, m, Z, F, Qd, Ed, w, sl, hq, post, xp⟩ => ?_
  simp only [rdO] at hq
  refine ⟨r, m, Z, F, _, Ed, w, sl, hq, fun d1 m1 v1 H1 F1 q1 e1 w1 r1 => ?_, xp⟩
  obtain ⟨i, rfl, q⟩ := q1
  cases r1
  exact ⟨i, rfl, post _ m1 _ H1 F1 q e1 w1 rfl⟩
theorem cutV_rel {K : PySem.W.Frag} {F : Hp} {vs : List V} {ds : List DV} (r : RelDs K F vs ds) (lo hi : Option Int) : RelDs K F (cutV vs lo hi) (cut ds lo hi) := by
  unfold cutV cut
  rw [r.length]
  exact (r.drop _).take _
theorem cutV_len (vs : List V) (lo hi : Option Int) : (cutV vs lo hi).length ≤ vs.length := by
  unfold cutV
  rw [List.length_take, List.length_drop]
  omega
theorem s_slc {lo hi : Option Expr} {ml mh : Ox} {p2 : Pos} (ha : PE X a (tL X.K G fld W ma)) (hl : PO X lo (tLO X.K G fld W ml)) (hh : PO X hi (tLO X.K G fld W mh)) : PE X (.Subscript a (.Slice lo hi none p2) pos) (tL X.K G fld W (.slc ma ml mh)) := by
  refine PEimp (pe_slice (SlR.or sl_list (SlR.or sl_tupA sl_str)) ha hl hh) fun σ H Q ⟨r, m, Z, F, Qd, Ed, w, sl, hq, post, xp⟩ => ?_
  simp only [rdE] at hq
  refine ⟨r, m, Z, F, _, Ed, w, sl, hq, fun d1 m1 v1 H1 F1 q1 e1 w1 r1 => ?_, xp⟩
  refine ⟨r, m1, Z, F1, _, Ed, w1, sl.mono e1.sm, q1, fun i m2 i' H2 F2 q2 e2 w2 r2 => ?_, xp.ext e1⟩
  cases r2
  refine ⟨r, m2, Z, F2, _, Ed, w2, sl.mono (e1.trans e2).sm, q2, fun j m3 j' H3 F3 q3 e3 w3 r3 => ?_, xp.ext (e1.trans e2)⟩
  cases r3
  have r1' := r1.mono (e2.trans e3).sm
  have e13 := e1.trans (e2.trans e3)
  unfold cutD at q3
  split at q3
  · rename_i xs e
    obtain ⟨p, vs, rfl, hp, rs, hl⟩ := w3.lst r1' e
    refine .inl ⟨p, vs, rfl, SqL.of hp, fun q hq => ?_⟩
    obtain ⟨w', e'⟩ := w3.new hq (.lst (cutV vs i j))
    exact post _ m3 _ _ _ q3 (e13.trans e') w' (.lst upd_same ((cutV_rel rs i j).mono e'.sm) (Nat.le_trans (cutV_len vs i j) hl))
  · rename_i xs e
    obtain ⟨p, vs, rfl, fp, hp, rs, hl⟩ := w3.tup r1' e
    refine .inr (.inl ⟨p, vs, rfl, SqT.of hp, fun hw => ?_, fun _ q hq => ?_⟩)
    · have ec : cut xs i j = xs := by
        unfold cut
        have e1 : sIx xs.length 0 i = 0 := by rw [← rs.length]; exact hw.1
        have e2 : sIx xs.length xs.length j = xs.length := by rw [← rs.length]; exact hw.2
        rw [e1, e2, List.drop_zero, Nat.sub_zero, List.take_length]
      rw [ec] at q3
      exact post _ m3 _ _ _ q3 e13 w3 (.tup fp rs hl)
    · obtain ⟨w', e'⟩ := w3.new hq (.tup (cutV vs i j))
      exact post _ m3 _ _ _ q3 (e13.trans e') w' (.tup upd_same ((cutV_rel rs i j).mono e'.sm) (Nat.le_trans (cutV_len vs i j) hl))
  · rename_i xs e
    obtain ⟨z, rfl, ez, cz⟩ := Wf.str r1' e
    refine .inr (.inr ⟨z, rfl, by rw [lenS, ez, ← LINE_eq]; exact q3.1, post _ m3 _ _ _ q3.2 e13 w3 ?_⟩)
    have ec : (cutS z i j).cps.toList = cut xs i j := by
      unfold cutS cut
      rw [lenS, ez]
      rfl
    rw [← ec]
    refine .str _ fun c hc => ?_
    rw [ec] at hc
    exact cz c (List.mem_of_mem_drop (List.mem_of_mem_take hc))
  · exact q3.elim
end
end DL

set_option Elab.async false
set_option linter.all false
set_option maxRecDepth 100000
set_option maxHeartbeats 2000000
namespace DL
open PySem L2
section
variable {X : Cx} {G : Nat → Option Fn} {fld : Nat → Addr × PySem.Str} {W : WX} {a b c : Expr} {ma mb mc : Ex} {pos p : Pos}
theorem look_of {m : Mu} {d : DV} (h : isLoc d = false) : look m d = d := by cases d <;> first | rfl | cases h
/-- the places that are looked at -/
def seen (ds : List DV) : List Addr := ds.filterMap fun d => match d with | .loc a => some a | _ => none
theorem mem_seen {ds : List DV} {q : Addr} : q ∈ seen ds ↔ DV.loc q ∈ ds := by
  unfold seen
  rw [List.mem_filterMap]
  constructor
  · rintro ⟨d, hd, e⟩
    cases d <;> first | (cases e; done) | (injection e with e; subst e; exact hd)
  · intro h
    exact ⟨_, h, rfl⟩
/-- frozen for a while -/
def viewF (F H : Hp) (m : Mu) (ds : List DV) : Hp := fun q => if q ∈ seen ds ∧ (m q).isSome = true then H q else F q
theorem call_pure {K : PySem.W.Frag} {Z F H : Hp} {m : Mu} {s : PSp} {vs : List V} {ds : List DV} {k : Post} {e : XPost} {Q : VK} {E : XK} (w : Wf K Z F H m) (rs : RelDs K F vs ds)
    (h : s (ds.map (look m)) (fun d => (ds.any isLoc = true → noMut d = true) ∧ k d m) (fun x => (ds.any isLoc = true → noMut x.arg = true) ∧ e x m))
    (post : ∀ d v H' F', k d m → Ext Z F F' → Wf K Z F' H' m → RelD K F' v d → Q v H')
    (xp : ∀ x H' F' cls dd, e x m → Ext Z F F' → Wf K Z F' H' m → ExcR K fld Z F' H' m x cls dd → E cls dd H') : spP K fld s vs H Q E := by
  have vsub : Same F (viewF F H m ds) := fun b o e => by
    unfold viewF
    by_cases hb : b ∈ seen ds ∧ (m b).isSome = true
    · obtain ⟨u, hu⟩ := Option.isSome_iff_exists.mp hb.2
      rw [(w.ob b u hu).1] at e; cases e
    · rw [if_neg hb]; exact e
  have vH : Sub (viewF F H m ds) H := fun b o e => by
    unfold viewF at e
    by_cases hb : b ∈ seen ds ∧ (m b).isSome = true
    · rw [if_pos hb] at e; exact e
    · rw [if_neg hb] at e; exact w.sf b o e
  have rv : ∀ {v : V} {d : DV}, RelD K F v d → d ∈ ds → RelD K (viewF F H m ds) v (look m d) := fun {v d} r hd => by
    cases r with
    | loc q =>
      unfold look
      simp only
      have hv : ∀ u, m q = some u → viewF F H m ds q = H q := fun u hu => by
        unfold viewF
        rw [if_pos ⟨mem_seen.mpr hd, by rw [hu]; rfl⟩]
      cases e : m q with
      | none => exact .loc q
      | some o =>
        cases o with
        | lst xs => obtain ⟨_, _, ys, h1, h2, h3⟩ := w.ob q _ e; exact .lst ((hv _ e).trans h1) (h2.mono vsub) h3
        | dic xs => obtain ⟨_, _, ys, h1, h2⟩ := w.ob q _ e; exact .dic (.inl ((hv _ e).trans h1)) (h2.mono vsub)
        | dit xs => obtain ⟨_, _, ys, h1, h2⟩ := w.ob q _ e; exact .dit (.inl ((hv _ e).trans h1)) (h2.mono vsub)
        | ins c xs => obtain ⟨_, _, dx, ys, h1, h2⟩ := w.ob q _ e; exact .ins ((hv _ e).trans h1) (h2.mono vsub)
        | st => exact (w.ob q _ e).2.2.elim
    | non => exact .non
    | bl b => exact .bl b
    | int b => exact .int b
    | str b hb => exact .str b hb
    | tup a b c => exact .tup (vsub _ _ a) (b.mono vsub) c
    | lst a b c => exact .lst (vsub _ _ a) (b.mono vsub) c
    | dic a b => exact .dic (Rd.same vsub a) (b.mono vsub)
    | dit a b => exact .dit (Rd.same vsub a) (b.mono vsub)
    | ins a b => exact .ins (vsub _ _ a) (b.mono vsub)
    | scr a b => exact .scr (Same.seq vsub a) b
  have rvs : ∀ {vs : List V} {es : List DV}, RelDs K F vs es → (∀ d ∈ es, d ∈ ds) → RelDs K (viewF F H m ds) vs (es.map (look m)) := by
    intro vs es r
    induction es generalizing vs with
    | nil => intro _; cases r; exact .nil
    | cons x t ih =>
      intro hm
      cases r with
      | cons r1 r2 => exact .cons (rv r1 (hm _ List.mem_cons_self)) (ih r2 fun d hd => hm d (List.mem_cons_of_mem _ hd))
  -- behind the call
  have back : ∀ F' H', Ext H (viewF F H m ds) F' → Sub F' H' → Sub H H' → ∃ F2, Ext Z F F2 ∧ Wf K Z F2 H' m ∧ (ds.any isLoc = false → F2 = F') ∧
      (∀ q, F' q = none → F2 q = none) ∧ (∀ b xs, F' b = some (.tup xs) → F2 b = some (.tup xs)) := by
    intro F' H' e' s' sH
    refine ⟨fun q => if q ∈ seen ds ∧ (m q).isSome = true then none else F' q, ⟨fun b o e => ?_, fun b o e => ?_⟩, ⟨fun b o e => ?_, fun b o e => ?_, fun q u e => ?_⟩, fun hn => ?_, fun q e => ?_, fun b o e => ?_⟩
    · have hb : ¬ (b ∈ seen ds ∧ (m b).isSome = true) := fun hb => by
        obtain ⟨u, hu⟩ := Option.isSome_iff_exists.mp hb.2
        rw [(w.ob b u hu).1] at e; cases e
      show (if b ∈ seen ds ∧ (m b).isSome = true then none else F' b) = some o
      rw [if_neg hb]
      exact e'.sm b o (vsub b o e)
    · have e : (if b ∈ seen ds ∧ (m b).isSome = true then none else F' b) = some o := e
      by_cases hb : b ∈ seen ds ∧ (m b).isSome = true
      · rw [if_pos hb] at e; cases e
      · rw [if_neg hb] at e
        rcases e'.new b o e with z | z
        · unfold viewF at z
          rw [if_neg hb] at z
          exact .inl z
        · exact .inr (sub_none w.sz z)
    · have e : (if b ∈ seen ds ∧ (m b).isSome = true then none else F' b) = some o := e
      by_cases hb : b ∈ seen ds ∧ (m b).isSome = true
      · rw [if_pos hb] at e; cases e
      · rw [if_neg hb] at e; exact s' b o e
    · exact sH b o (w.sz b o e)
    · obtain ⟨a1, a2, a3⟩ := w.ob q u e
      refine ⟨?_, a2, ?_⟩
      · show (if q ∈ seen ds ∧ (m q).isSome = true then none else F' q) = none
        by_cases hb : q ∈ seen ds ∧ (m q).isSome = true
        · rw [if_pos hb]
        · rw [if_neg hb]
          cases z : F' q with
          | none => rfl
          | some o =>
            obtain ⟨x, hx⟩ := a3.some
            rcases e'.new q o z with y | y
            · unfold viewF at y
              rw [if_neg hb, a1] at y; cases y
            · rw [hx] at y; cases y
      · refine a3.mono (fun b o h => ?_) fun v hv => sH q v hv
        have hb : ¬ (b ∈ seen ds ∧ (m b).isSome = true) := fun hb => by
          obtain ⟨u, hu⟩ := Option.isSome_iff_exists.mp hb.2
          rw [(w.ob b u hu).1] at h; cases h
        show (if b ∈ seen ds ∧ (m b).isSome = true then none else F' b) = some o
        rw [if_neg hb]
        exact e'.sm b o (vsub b o h)
    · funext q
      show (if q ∈ seen ds ∧ (m q).isSome = true then none else F' q) = F' q
      rw [if_neg]
      rintro ⟨h1, _⟩
      have h2 := mem_seen.mp h1
      have : ds.any isLoc = true := List.any_eq_true.mpr ⟨_, h2, rfl⟩
      rw [this] at hn; cases hn
    · show (if q ∈ seen ds ∧ (m q).isSome = true then none else F' q) = none
      split <;> simp [*]
    · show (if b ∈ seen ds ∧ (m b).isSome = true then none else F' b) = some (.tup o)
      rw [if_neg]
      · exact e
      · rintro ⟨h5, h6⟩
        obtain ⟨u, hu⟩ := Option.isSome_iff_exists.mp h6
        have e2 : F' b = H b := by
          obtain ⟨x, hx⟩ := (w.ob b u hu).2.2.some
          have : viewF F H m ds b = some x := by
            unfold viewF
            rw [if_pos ⟨h5, h6⟩]; exact hx
          rw [e'.sm b x this, hx]
        rw [e2] at e
        obtain ⟨_, _, a3⟩ := w.ob b u hu
        cases u with
        | lst ds => obtain ⟨ys, y1, _⟩ := a3; rw [e] at y1; cases y1
        | dic ds => obtain ⟨ys, y1, _⟩ := a3; rw [e] at y1; cases y1
        | dit ds => obtain ⟨ys, y1, _⟩ := a3; rw [e] at y1; cases y1
        | ins c ds => obtain ⟨dx, ys, y1, _⟩ := a3; rw [e] at y1; cases y1
        | st => exact a3.elim
  have relB : ∀ {F' F2 : Hp} {v : V} {d : DV}, (ds.any isLoc = false → F2 = F') → (∀ b xs, F' b = some (.tup xs) → F2 b = some (.tup xs)) → (ds.any isLoc = true → noMut d = true) → RelD K F' v d → RelD K F2 v d := fun {F' F2 v d} h1 h2 h3 r => by
    cases hl : ds.any isLoc with
    | false => rw [h1 hl]; exact r
    | true => exact r.less h2 (h3 hl)
  refine ⟨ds.map (look m), viewF F H m ds, _, _, vH, rvs rs (fun _ h => h), h, fun d v H' F' q e' s' sH r => ?_, fun x H' F' cls dd q e' s' sH r => ?_⟩
  · obtain ⟨F2, x1, x2, x3, x4, x5⟩ := back F' H' e' s' sH
    exact post d v H' F2 q.2 x1 x2 (relB x3 x5 q.1 r)
  · obtain ⟨F2, x1, x2, x3, x4, x5⟩ := back F' H' e' s' sH
    obtain ⟨rfl, dx, v, rfl, y1, y2, y3, _, y4⟩ := r
    refine xp x H' F2 _ _ q.2 x1 x2 ⟨rfl, dx, v, rfl, y1, x4 _ y2, sub_none w.sz y3, ?_, relB x3 x5 q.1 y4⟩
    cases e : m dx with
    | none => rfl
    | some o =>
      obtain ⟨u, hu⟩ := (w.ob dx o e).2.2.some
      rw [y3] at hu; cases hu
/-- what the callee's promise wants -/
theorem call_sp {f : Nat} {g : Fn} {Z F H : Hp} {m : Mu} {vs : List V} {ds : List DV} {Qd : Post} {Ed : XPost} {Q : VK} {σ : L2.St} (hG : G f = some g) (w : Wf X.K Z F H m) (rs : RelDs X.K F vs ds) (q : callD G f ds m Qd Ed)
    (post : ∀ d m' v H' F', Qd d m' → Ext Z F F' → Wf X.K Z F' H' m' → RelD X.K F' v d → Q v H') (xp : XOk X.K fld W Z F σ Ed) : spOf X.K fld g vs H Q (WE W σ) := by
  unfold callD at q
  rw [hG] at q
  cases g with
  | pure s => exact call_pure (k := Qd) (e := Ed) w rs q (fun d v H' F' hk e' w' r' => post d m v H' F' hk e' w' r') (fun x H' F' cls dd hk e' w' r' => xp x m H' F' cls dd hk e' w' r')
  | gen s => exact ⟨ds, m, Z, F, Qd, Ed, w, rs, q, post, xp⟩
/-- f(..), a def of the table -/
theorem s_call {k : Nat} {f : Nat} {x : PySem.Str} {g : Fn} {es : List Expr} {ms : Exs} (hG : G f = some g) (hr : Room k X.A) (hx : FnAt X fld k (x, []) g) (hgl : Gl X x) (tk : Takes X W) (ha : PA X (a :: es) (tLA X.K G fld W ms))
    (hdb : (x == ("__debug__" : PySem.Str)) = false) (he : starEach (a :: es) X.env = (false, eval a X.env) :: starEach es X.env) (hpl : (backTo pos (starEach es X.env)).any (·.1) = false) :
    PE X (.Call (.Name x p) (a :: es) [] pos) (tL X.K G fld W (.call f ms)) := by
  obtain ⟨ad, fd, ps, sp, hm, hk, F, ⟨_, rfl, hb⟩ | ⟨z, _⟩⟩ := hx.ex
  · refine PEimp (pe_callS F hr hgl hm hk hb (fun σ => passAt tk σ) ha hdb he hpl) fun σ H Q ⟨r, m, Z, F, Qd, Ed, w, sl, hq, post, xp⟩ => ?_
    simp only [rdE] at hq
    refine ⟨r, m, Z, F, _, Ed, w, sl, hq, fun d1 m1 v1 H1 F1 q1 e1 w1 r1 => ?_, xp⟩
    exact call_sp hG w1 r1 q1 (fun d m' v H' F' hk e' w' r' => post d m' v H' F' hk (e1.trans e') w' r') (xp.ext e1)
  · exact absurd rfl z
theorem s_call0 {k : Nat} {f : Nat} {x : PySem.Str} {g : Fn} (hG : G f = some g) (hr : Room k X.A) (hx : FnAt X fld k (x, []) g) (hgl : Gl X x) (tk : Takes X W) (hdb : (x == ("__debug__" : PySem.Str)) = false) :
    PE X (.Call (.Name x p) [] [] pos) (tL X.K G fld W (.call f .nil)) := by
  obtain ⟨ad, fd, ps, sp, hm, hk, F, ⟨_, rfl, hb⟩ | ⟨z, _⟩⟩ := hx.ex
  · refine ⟨fun pins s σ H Q I h => ?_⟩
    refine wpAny_Call_Name_kw (ld_glob I hgl hm ?_ hdb)
    obtain ⟨r, m, Z, F', Qd, Ed, w, sl, hq, post, xp⟩ := h
    simp only [rdE, rdA] at hq
    exact PySem.W.callWith_K0 I.kIn hk (run_fnS (us := []) (E := WE W) F hr hb (passAt tk σ) I .nil (call_sp hG w .nil hq post xp))
  · exact absurd rfl z
/-- the keywords' values -/
def kwEs : List Keyword → List Expr
  | [] => []
  | ⟨_, e, _⟩ :: r => e :: kwEs r
theorem s_kw {kws : List Keyword} : ∀ {ms : Exs}, PK X kws (tLA X.K G fld W ms) → PK X kws (tLA X.K G fld W ms) := fun h => h
theorem PKimp {kws : List Keyword} {t t' : TA} (h : PK X kws t) (i : ∀ σ H Q, t' σ H Q → t σ H Q) : PK X kws t' := ⟨fun p pins s σ H Q I q => h.run p pins s σ H Q I (i σ H Q q)⟩
theorem s_kwnil : PK X [] (tLA X.K G fld W .nil) := PKimp pk_nil fun σ H Q ⟨r, m, Z, F, Qd, Ed, w, sl, hq, post, xp⟩ => post [] m [] H F hq (Ext.refl Z F) w .nil
theorem s_kwcons {kws : List Keyword} {ms : Exs} {nm : Option PySem.Str} {kp : Pos} (ha : PE X a (tL X.K G fld W ma)) (hb : PK X kws (tLA X.K G fld W ms)) : PK X (⟨nm, a, kp⟩ :: kws) (tLA X.K G fld W (.cons ma ms)) := by
  refine PKimp (pk_cons ha hb) fun σ H Q ⟨r, m, Z, F, Qd, Ed, w, sl, hq, post, xp⟩ => ?_
  simp only [rdA] at hq
  refine ⟨r, m, Z, F, _, Ed, w, sl, hq, fun d1 m1 v1 H1 F1 q1 e1 w1 r1 => ?_, xp⟩
  exact ⟨r, m1, Z, F1, _, Ed, w1, sl.mono e1.sm, q1, fun d2 m2 v2 H2 F2 q2 e2 w2 r2 => post _ m2 _ H2 F2 q2 (e1.trans e2) w2 (.cons (r1.mono e2.sm) r2), xp.ext e1⟩
theorem run_fnNS {CX : CXT} {k n : Nat} {f : Addr} {fd : FuncData} {ps ks : List PySem.Str} {sp : Sp} {E : XK} {pins : List (Addr × Obj)} {σ : L2.St} {H : Hp} {s : Shared} {Q : VK} {us ws : List Value} {vs zs : List V} {g : List Value → List Value → List Value} {gV : List V → List V → List V}
    (F : FnOk X.prog X.w X.K X.mg X.base CX k f fd ps sp) (hr : Room k X.A) (hb : KBn X.K fd ps n ks g gV) (hx : PassesAt CX X σ E) (I : Inv X pins σ H s) (r : Vals vs us) (rz : Vals zs ws) (l1 : vs.length = n) (l2 : zs.length = ks.length) (h : sp (gV vs zs) H Q E) :
    wpAny (model X.prog X.w) X.A (call (.ref f) us (ks.zip ws)) (EP X pins σ Q) X.xe s := by
  have r2 := hb.rel r rz
  refine wpAny_call (codeAny_mono (F.run X.A X.stack s H ⟨us, ks.zip ws⟩ (g us ws) (gV vs zs) Q E hr I.env0 (hb.to s us ws I.kIn (r.length.symm.trans l1) (rz.length.symm.trans l2)) r2 h) fun r s' hq => ?_)
  cases r with
  | error e => exact hx pins H s e s' I hq
  | ok fl =>
    cases fl with
    | ret u => exact I.after hq
    | next => exact False.elim hq
    | brk => exact False.elim hq
    | cont => exact False.elim hq
/-- f(k = v, ..) -/
theorem s_callk {k : Nat} {f : Nat} {x : PySem.Str} {ks : List PySem.Str} {g : Fn} {kws : List Keyword} {ms : Exs} (hG : G f = some g) (hr : Room k X.A) (hx : FnAt X fld k (x, ks) g) (hn : ks ≠ []) (hgl : Gl X x) (tk : Takes X W) (hkw : PK X kws (tLA X.K G fld W ms))
    (hks : kws.map (·.arg) = ks.map some) (hdb : (x == ("__debug__" : PySem.Str)) = false) :
    PE X (.Call (.Name x p) [] kws pos) (tL X.K G fld W (.call f ms)) := by
  have k1 : ∀ (kws : List Keyword) (ks : List PySem.Str), kws.map (·.arg) = ks.map some → (backToKw pos (keywordEach kws X.env)).all (·.1.isSome) = true ∧ (backToKw pos (keywordEach kws X.env)).filterMap (·.1) = ks ∧ (backToKw pos (keywordEach kws X.env)).any (·.1.isNone) = false := by
    intro kws
    induction kws with
    | nil =>
      intro ks h
      cases ks with
      | nil => exact ⟨rfl, rfl, rfl⟩
      | cons _ _ => cases h
    | cons q r ih =>
      intro ks h
      cases ks with
      | nil => cases h
      | cons z t =>
        simp only [List.map_cons, List.cons.injEq] at h
        obtain ⟨h1, h2⟩ := h
        obtain ⟨i1, i2, i3⟩ := ih t h2
        obtain ⟨nm, e, kp⟩ := q
        simp only at h1
        subst h1
        refine ⟨?_, ?_, ?_⟩
        · show (true && (backToKw pos (keywordEach r X.env)).all (·.1.isSome)) = true
          rw [i1]; rfl
        · show z :: (backToKw pos (keywordEach r X.env)).filterMap (·.1) = z :: t
          rw [i2]
        · show (false || (backToKw pos (keywordEach r X.env)).any (·.1.isNone)) = false
          rw [i3]; rfl
  obtain ⟨h1, h2, h3⟩ := k1 kws ks hks
  obtain ⟨ad, fd, ps, sp, hm, hk, F, ⟨z, _⟩ | ⟨_, gg, gV, hb, imp⟩⟩ := hx.ex
  · exact absurd z hn
  · refine ⟨fun pins s σ H Q I h => ?_⟩
    refine wpAny_Call_Name_kw (ld_glob I hgl hm ?_ hdb)
    refine PySem.W.callWith_KW0 (h₀ := X.base) I.ok.mod.kin hk h1 ?_ (by rw [h3]; rfl)
    obtain ⟨r, m, Z, F', Qd, Ed, w, sl, hq, post, xp⟩ := h
    simp only [rdE] at hq
    have hq' : tLA X.K G fld W ms σ H (fun vs H1 => spOf X.K fld g vs H1 Q (WE W σ)) := ⟨r, m, Z, F', _, Ed, w, sl, hq, fun d1 m1 v1 H1 F1 q1 e1 w1 r1 => call_sp hG w1 r1 q1 (fun d m' v H' F' hk e' w' r' => post d m' v H' F' hk (e1.trans e') w' r') (xp.ext e1), xp⟩
    refine thn (hkw.run pos pins s σ H _ I hq') fun ws s2 ⟨zs, H2, I2, rz, q2⟩ => ⟨I2.kIn, ?_⟩
    rw [h2]
    obtain ⟨l2, q3⟩ := imp zs H2 Q _ q2
    exact run_fnNS (us := []) (vs := []) F hr hb (passAt tk σ) I2 .nil rz rfl l2 q3
end
end DL

set_option Elab.async false
set_option linter.all false
set_option maxRecDepth 100000
set_option maxHeartbeats 2000000
namespace DL
open PySem L2
section
variable {X : Cx} {G : Nat → Option Fn} {fld : Nat → Addr × PySem.Str} {W : WX} {a b c : Expr} {ma mb mc : Ex} {pos p : Pos}
/-! ### built-ins, by values -/
section
variable {K : PySem.W.Frag} {Z F H : Hp} {m : Mu}
/-- what one wants behind a built-in call -/
abbrev Fin (K : PySem.W.Frag) (Z F : Hp) (m : Mu) (k : DV → Prop) (Q : VK) : Prop := ∀ d v H' F', k d → Ext Z F F' → Wf K Z F' H' m → RelD K F' v d → Q v H'
theorem strs_of : ∀ {vs : List V} {ds : List DV} {ss : List S}, RelDs K F vs ds → strs? ds = some ss → ∃ ys : List PySem.Str, vs = ys.map V.str ∧ ss = ys.map (fun y => y.cps.toList) ∧ ∀ y ∈ ys, ∀ c ∈ y.cps.toList, c < 0x110000
  | _, _, _, .nil, h => by cases h; exact ⟨[], rfl, rfl, fun _ h => nomatch h⟩
  | _, _, _, .cons (ds := ds') r t, h => by
    cases r with
    | str x hx =>
      simp only [strs?] at h
      cases e : strs? ds' with
      | none => rw [e] at h; cases h
      | some q =>
        rw [e] at h
        cases h
        obtain ⟨ys, h1, h2, h3⟩ := strs_of t e
        refine ⟨x :: ys, by rw [h1]; rfl, by rw [h2]; rfl, fun y hy => ?_⟩
        rcases List.mem_cons.mp hy with z | z
        · subst z; exact hx
        · exact h3 y z
    | _ => cases h
theorem ints_of : ∀ {vs : List V} {ds : List DV} {ss : List Int}, RelDs K F vs ds → ints? ds = some ss → vs = ss.map V.int
  | _, _, _, .nil, h => by cases h; rfl
  | _, _, _, .cons (ds := ds') r t, h => by
    cases r with
    | int x =>
      simp only [ints?] at h
      cases e : ints? ds' with
      | none => rw [e] at h; cases h
      | some q =>
        rw [e] at h
        cases h
        rw [ints_of t e]
        rfl
    | _ => cases h
theorem bls_of : ∀ {vs : List V} {ds : List DV} {ss : List Bool}, RelDs K F vs ds → bls? ds = some ss → vs = ss.map V.bl
  | _, _, _, .nil, h => by cases h; rfl
  | _, _, _, .cons (ds := ds') r t, h => by
    cases r with
    | bl x =>
      simp only [bls?] at h
      cases e : bls? ds' with
      | none => rw [e] at h; cases h
      | some q =>
        rw [e] at h
        cases h
        rw [bls_of t e]
        rfl
    | _ => cases h
theorem map_look1 {ds : List DV} {x : DV} (h : ds.map (look m) = [x]) : ∃ d, ds = [d] ∧ look m d = x := by
  match ds, h with
  | [d], h => exact ⟨d, rfl, by simpa using h⟩
theorem map_look2 {ds : List DV} {x y : DV} (h : ds.map (look m) = [x, y]) : ∃ d e, ds = [d, e] ∧ look m d = x ∧ look m e = y := by
  match ds, h with
  | [d, e], h => exact ⟨d, e, rfl, by simpa using h⟩
theorem rel1 {vs : List V} {d : DV} (r : RelDs K F vs [d]) : ∃ v, vs = [v] ∧ RelD K F v d := by
  cases r with
  | cons a b => cases b; exact ⟨_, rfl, a⟩
theorem rel2 {vs : List V} {d e : DV} (r : RelDs K F vs [d, e]) : ∃ v u, vs = [v, u] ∧ RelD K F v d ∧ RelD K F u e := by
  cases r with
  | cons a b => cases b with
    | cons c d => cases d; exact ⟨_, _, rfl, a, c⟩
end
def rLenAll (K : PySem.W.Frag) : List V → Hp → VK → Prop := fun xs H Q => ∃ x n, xs = [x] ∧ LenV K x H n ∧ Q (.int n) H
/-- is the built-in a class? -/
def bltTy : Blt → Bool
  | .int => true | .list => true | .tuple => true | .str => true | _ => false
def bltVal (b : Blt) : Value := if bltTy b then .type (match b with | .int => "int" | .list => "list" | .tuple => "tuple" | _ => "str") else .builtin (match b with | .len => "len" | .abs => "abs" | .sorted => "sorted" | .any => "any" | .all => "all" | .sum => "sum" | .max2 => "max" | _ => "min")
/-- a built-in that is served, its rule, and that it does what is told -/
structure BltOk (X : Cx) (b : Blt) : Prop where
  ex : ∃ r, CallR X (bltVal b) r ∧ ∀ {Z F H : Hp} {m : Mu} {vs : List V} {ds : List DV} {k : DV → Prop} {Q : VK}, Wf X.K Z F H m → RelDs X.K F vs ds → bltD b (ds.map (look m)) k → Fin X.K Z F m k Q → r vs H Q
theorem b_len : BltOk X .len := ⟨_, call_len, fun {Z F H m vs ds k Q} w r h q => by
  replace h : lenD _ _ := h
  unfold lenD at h
  split at h <;> try exact h.elim
  · rename_i e
    obtain ⟨d, rfl, e0⟩ := map_look1 e
    obtain ⟨v, rfl, rv⟩ := rel1 r
    obtain ⟨a, vs, rfl, hp, rs, _⟩ := w.lst rv e0
    refine ⟨_, _, rfl, .inl ⟨vs, SqL.of hp, rfl⟩, q _ _ H F (by rw [rs.length]; exact h) (Ext.refl Z F) w (.int _)⟩
  · rename_i e
    obtain ⟨d, rfl, e0⟩ := map_look1 e
    obtain ⟨v, rfl, rv⟩ := rel1 r
    obtain ⟨a, vs, rfl, _, hp, rs, _⟩ := w.tup rv e0
    refine ⟨_, _, rfl, .inr ⟨vs, SqT.of hp, rfl⟩, q _ _ H F (by rw [rs.length]; exact h) (Ext.refl Z F) w (.int _)⟩
  · rename_i e
    obtain ⟨d, rfl, e0⟩ := map_look1 e
    obtain ⟨v, rfl, rv⟩ := rel1 r
    obtain ⟨z, rfl, ez, _⟩ := Wf.str rv e0
    refine ⟨_, _, rfl, ⟨by rw [lenS, ez, ← LINE_eq]; exact h.1, rfl⟩, q _ _ H F (by rw [lenS, ez]; exact h.2) (Ext.refl Z F) w (.int _)⟩⟩
theorem b_abs : BltOk X .abs := ⟨_, call_abs, fun {Z F H m vs ds k Q} w r h q => by
  replace h : absD _ _ := h
  unfold absD at h
  split at h <;> try exact h.elim
  rename_i e
  obtain ⟨d, rfl, e0⟩ := map_look1 e
  obtain ⟨v, rfl, rv⟩ := rel1 r
  cases Wf.int rv e0
  exact ⟨_, rfl, q _ _ H F h (Ext.refl Z F) w (.int _)⟩⟩
theorem b_int : BltOk X .int := ⟨_, call_int1, fun {Z F H m vs ds k Q} w r h q => by
  replace h : intD _ _ := h
  unfold intD at h
  split at h <;> try exact h.elim
  · rename_i e
    obtain ⟨d, rfl, e0⟩ := map_look1 e
    obtain ⟨v, rfl, rv⟩ := rel1 r
    cases Wf.int rv e0
    exact .inl ⟨_, rfl, q _ _ H F h (Ext.refl Z F) w (.int _)⟩
  · rename_i e
    obtain ⟨d, rfl, e0⟩ := map_look1 e
    obtain ⟨v, rfl, rv⟩ := rel1 r
    cases Wf.bl rv e0
    exact .inr ⟨_, rfl, q _ _ H F h (Ext.refl Z F) w (.int _)⟩⟩
theorem b_tuple : BltOk X .tuple := ⟨_, call_tuple_of, fun {Z F H m vs ds k Q} w r h q => by
  replace h : tupleD _ _ := h
  unfold tupleD at h
  split at h <;> try exact h.elim
  · rename_i e
    obtain ⟨d, rfl, e0⟩ := map_look1 e
    obtain ⟨v, rfl, rv⟩ := rel1 r
    obtain ⟨a, vs, rfl, hp, rs, hl⟩ := w.lst rv e0
    refine ⟨a, vs, rfl, .inl ⟨SqL.of hp, fun l hl' => ?_⟩⟩
    obtain ⟨w', e'⟩ := w.new hl' (.tup vs)
    exact q _ _ _ _ h e' w' (.tup upd_same (rs.mono e'.sm) hl)
  · rename_i e
    obtain ⟨d, rfl, e0⟩ := map_look1 e
    obtain ⟨v, rfl, rv⟩ := rel1 r
    obtain ⟨a, vs, rfl, fp, hp, rs, hl⟩ := w.tup rv e0
    exact ⟨a, vs, rfl, .inr ⟨SqT.of hp, q _ _ _ _ h (Ext.refl Z F) w (.tup fp rs hl)⟩⟩⟩
theorem b_max (hc : X.calm = true) : BltOk X .max2 := ⟨_, call_max2 hc, fun {Z F H m vs ds k Q} w r h q => by
  replace h : maxD _ _ := h
  unfold maxD at h
  split at h <;> try exact h.elim
  rename_i e
  obtain ⟨d, d', rfl, e0, e'⟩ := map_look2 e
  obtain ⟨v, u, rfl, rv, ru⟩ := rel2 r
  cases Wf.int rv e0
  cases Wf.int ru e'
  exact ⟨_, _, rfl, q _ _ H F h (Ext.refl Z F) w (.int _)⟩⟩
theorem b_min (hc : X.calm = true) : BltOk X .min2 := ⟨_, call_min2 hc, fun {Z F H m vs ds k Q} w r h q => by
  replace h : minD _ _ := h
  unfold minD at h
  split at h <;> try exact h.elim
  rename_i e
  obtain ⟨d, d', rfl, e0, e'⟩ := map_look2 e
  obtain ⟨v, u, rfl, rv, ru⟩ := rel2 r
  cases Wf.int rv e0
  cases Wf.int ru e'
  exact ⟨_, _, rfl, q _ _ H F h (Ext.refl Z F) w (.int _)⟩⟩
theorem b_any (hc : X.calm = true) : BltOk X .any := ⟨_, cr_any hc, fun {Z F H m vs ds k Q} w r h q => by
  replace h : anyD _ _ := h
  unfold anyD at h
  split at h <;> try exact h.elim
  rename_i e
  obtain ⟨d, rfl, e0⟩ := map_look1 e
  obtain ⟨v, rfl, rv⟩ := rel1 r
  obtain ⟨a, vs, rfl, hp, rs, hl⟩ := w.lst rv e0
  obtain ⟨bs, hb, hk⟩ := h
  have ev := bls_of rs hb
  subst ev
  exact ⟨a, bs, rfl, SqL.of hp, q _ _ H F hk (Ext.refl Z F) w (.bl _)⟩⟩
theorem b_all (hc : X.calm = true) : BltOk X .all := ⟨_, cr_all hc, fun {Z F H m vs ds k Q} w r h q => by
  replace h : allD _ _ := h
  unfold allD at h
  split at h <;> try exact h.elim
  rename_i e
  obtain ⟨d, rfl, e0⟩ := map_look1 e
  obtain ⟨v, rfl, rv⟩ := rel1 r
  obtain ⟨a, vs, rfl, hp, rs, hl⟩ := w.lst rv e0
  obtain ⟨bs, hb, hk⟩ := h
  have ev := bls_of rs hb
  subst ev
  exact ⟨a, bs, rfl, SqL.of hp, q _ _ H F hk (Ext.refl Z F) w (.bl _)⟩⟩
theorem b_sum (hc : X.calm = true) : BltOk X .sum := ⟨_, cr_sum hc, fun {Z F H m vs ds k Q} w r h q => by
  replace h : sumD _ _ := h
  unfold sumD at h
  split at h <;> try exact h.elim
  rename_i e
  obtain ⟨d, rfl, e0⟩ := map_look1 e
  obtain ⟨v, rfl, rv⟩ := rel1 r
  obtain ⟨a, vs, rfl, hp, rs, hl⟩ := w.lst rv e0
  obtain ⟨bs, hb, hk⟩ := h
  have ev := ints_of rs hb
  subst ev
  exact ⟨a, bs, rfl, SqL.of hp, q _ _ H F hk (Ext.refl Z F) w (.int _)⟩⟩
/-- list(..) makes a new list -/
theorem call_list_new {Z F H : Hp} {m : Mu} {vs : List V} {ds : List DV} {k : DV → Prop} {Q : VK} (w : Wf X.K Z F H m) (r : RelDs X.K F vs ds) (h : bltD .list (ds.map (look m)) k)
    (q : ∀ d v H', k d → Wf X.K Z F H' m → FreshL X.K Z F H' m v d → Q v H') : ∃ p ys, vs = [.ref p] ∧ (SqL X.K H p ys ∨ SqT X.K H p ys) ∧ ∀ l, H l = none → Q (.ref l) (upd H l (.lst ys)) := by
  replace h : listD _ _ := h
  unfold listD at h
  split at h <;> try exact h.elim
  · rename_i e
    obtain ⟨d, rfl, e0⟩ := map_look1 e
    obtain ⟨v, rfl, rv⟩ := rel1 r
    obtain ⟨a, vs, rfl, hp, rs, hl⟩ := w.lst rv e0
    refine ⟨a, vs, rfl, .inl (SqL.of hp), fun l hn => ?_⟩
    obtain ⟨w', fr⟩ := w.fresh hn rs hl
    exact q _ _ _ h w' fr
  · rename_i e
    obtain ⟨d, rfl, e0⟩ := map_look1 e
    obtain ⟨v, rfl, rv⟩ := rel1 r
    obtain ⟨a, vs, rfl, _, hp, rs, hl⟩ := w.tup rv e0
    refine ⟨a, vs, rfl, .inr (SqT.of hp), fun l hn => ?_⟩
    obtain ⟨w', fr⟩ := w.fresh hn rs hl
    exact q _ _ _ h w' fr
  · rename_i e
    obtain ⟨d, rfl, e0⟩ := map_look1 e
    obtain ⟨v, rfl, rv⟩ := rel1 r
    obtain ⟨a, rfl, hp, hl⟩ := w.scr rv e0
    refine ⟨a, _, rfl, .inl hp, fun l hn => ?_⟩
    have rs : ∀ ns : List Int, RelDs X.K F (ns.map V.int) (ns.map DV.int) := fun ns => by
      induction ns with
      | nil => exact .nil
      | cons n t ih => exact .cons (.int n) ih
    obtain ⟨w', fr⟩ := w.fresh hn (rs _) (by rw [List.length_map]; exact hl)
    exact q _ _ _ h w' fr
theorem b_list : BltOk X .list := ⟨_, call_list_of, fun {Z F H m vs ds k Q} w r h q => call_list_new w r h fun d v H' hk w' fr => by
  obtain ⟨p, vs, ds, rfl, rfl, hp, hf, hz, hm, rs, hl⟩ := fr
  obtain ⟨w2, e2⟩ := w'.freeze hp hf hz hm
  exact q _ _ H' _ hk e2 w2 (.lst upd_same (rs.mono e2.sm) hl)⟩
def served (b : Blt) : Bool := match b with
  | .sorted => false | .str => false | _ => true
theorem blt_ok (hc : X.calm = true) : ∀ b, served b = true → BltOk X b
  | .len, _ => b_len | .abs, _ => b_abs | .int, _ => b_int | .list, _ => b_list | .tuple, _ => b_tuple | .any, _ => b_any hc | .all, _ => b_all hc | .sum, _ => b_sum hc | .max2, _ => b_max hc | .min2, _ => b_min hc
theorem boot_blt (b : Blt) : bootBuiltins (bltName b) = some (bltVal b) := by cases b <;> decide +kernel
theorem s_blt {bb : Blt} {es : List Expr} {ms : Exs} (hc : X.calm = true) (hs : served bb = true) (hgl : Gl X (bltName bb)) (hm : X.mg (bltName bb) = none) (ha : PA X (a :: es) (tLA X.K G fld W ms))
    (he : starEach (a :: es) X.env = (false, eval a X.env) :: starEach es X.env) (hpl : (backTo pos (starEach es X.env)).any (·.1) = false) :
    PE X (.Call (.Name (bltName bb) p) (a :: es) [] pos) (tL X.K G fld W (.blt bb ms)) := by
  obtain ⟨r, hr, ok⟩ := (blt_ok (X := X) hc bb hs).ex
  have key : ∀ σ H Q, tL X.K G fld W (.blt bb ms) σ H Q → tCB r (tLA X.K G fld W ms) σ H Q := fun σ H Q ⟨r, m, Z, F, Qd, Ed, w, sl, hq, post, xp⟩ => by
    simp only [rdE] at hq
    refine ⟨r, m, Z, F, _, Ed, w, sl, hq, fun d1 m1 v1 H1 F1 q1 e1 w1 r1 => ?_, xp⟩
    exact ok w1 r1 q1 fun d v H' F' hk e' w' r' => post d m1 v H' F' hk (e1.trans e') w' r'
  have hv := boot_blt bb
  have hn : bltName bb ≠ "__name__" := by cases bb <;> decide +kernel
  have hdb : (bltName bb == ("__debug__" : PySem.Str)) = false := by cases bb <;> decide +kernel
  unfold bltVal at hr hv
  by_cases ht : bltTy bb = true
  · rw [if_pos ht] at hr hv
    exact PEimp (pe_callTy hr hgl hm hv ha hn hdb he hpl) key
  · rw [if_neg ht] at hr hv
    exact PEimp (pe_callB hr hgl hm hv ha hn hdb he hpl) key
end
end DL

set_option Elab.async false
set_option linter.all false
set_option maxRecDepth 100000
set_option maxHeartbeats 2000000
namespace DL
open PySem L2
section
variable {X : Cx} {G : Nat → Option Fn} {fld : Nat → Addr × PySem.Str} {W : WX} {a b c : Expr} {ma mb mc : Ex} {pos p : Pos}
/-! ### isinstance -/
def kName : Kind → String
  | .int => "int" | .bool => "bool" | .str => "str" | .tuple => "tuple" | .list => "list" | .dict => "dict" | .ins _ => "object"
def kStr : Kind → PySem.Str
  | .int => "int" | .bool => "bool" | .str => "str" | .tuple => "tuple" | .list => "list" | .dict => "dict" | .ins _ => "object"
def kPlain : Kind → Bool
  | .ins _ => false
  | _ => true
theorem boot_kind (k : Kind) (h : kPlain k = true) : bootBuiltins (kStr k) = some (.type (kName k)) := by cases k <;> first | (cases h; done) | decide +kernel
theorem isi_ok {K : PySem.W.Frag} {Z F H : Hp} {m : Mu} {v : V} {d : DV} {k : Kind} {q : Bool} (w : Wf K Z F H m) (r : RelD K F v d) (hk : kPlain k = true) (h : isiD k (look m d) = some q) : ∃ t, TyX K H v (.type t) ∧ kitB t (kName k) = some q := by
  cases e : look m d with
  | non => rw [e] at h; cases Wf.non r e; refine ⟨_, .base .non, ?_⟩; cases k <;> first | (cases hk; done) | (cases h; decide +kernel)
  | bl b => rw [e] at h; cases Wf.bl r e; refine ⟨_, .base (.bl b), ?_⟩; cases k <;> first | (cases hk; done) | (cases h; decide +kernel)
  | int b => rw [e] at h; cases Wf.int r e; refine ⟨_, .base (.int b), ?_⟩; cases k <;> first | (cases hk; done) | (cases h; decide +kernel)
  | str b => rw [e] at h; obtain ⟨x, rfl, _⟩ := Wf.str r e; refine ⟨_, .base (.str x), ?_⟩; cases k <;> first | (cases hk; done) | (cases h; decide +kernel)
  | tup b => rw [e] at h; obtain ⟨x, vs, rfl, _, hx, _⟩ := w.tup r e; refine ⟨_, .base (.tup hx), ?_⟩; cases k <;> first | (cases hk; done) | (cases h; decide +kernel)
  | lst b => rw [e] at h; obtain ⟨x, vs, rfl, hx, _⟩ := w.lst r e; refine ⟨_, .base (.lst hx), ?_⟩; cases k <;> first | (cases hk; done) | (cases h; decide +kernel)
  | dic b =>
    rw [e] at h
    have key : ∃ x vs, v = .ref x ∧ Rd H x (.dK vs) := by
      cases r with
      | dic hf rs =>
        cases e
        exact ⟨_, _, rfl, Rd.same w.sf hf⟩
      | loc x =>
        unfold look at e
        simp only at e
        split at e <;> try cases e
        rename_i e0
        obtain ⟨_, _, vs, h1, h2⟩ := w.ob _ _ e0
        exact ⟨_, vs, rfl, .inl h1⟩
      | _ => cases e
    obtain ⟨x, vs, rfl, hx⟩ := key
    refine ⟨"dict", ?_, ?_⟩
    · rcases hx with hx | ⟨o, hx⟩
      · exact .base (.dK hx)
      · exact .fDict hx
    · cases k <;> first | (cases hk; done) | (cases h; decide +kernel)
  | dit b => rw [e] at h; cases h
  | ins _ _ => rw [e] at h; cases h
  | loc _ => rw [e] at h; cases h
  | scr _ => rw [e] at h; cases h
theorem s_isi {k : Kind} {pT : Pos} (hk : kPlain k = true) (hgl : Gl X "isinstance") (hm : X.mg "isinstance" = none) (hgT : Gl X (kStr k)) (hmT : X.mg (kStr k) = none) (ha : PE X a (tL X.K G fld W ma))
    (he : starEach [a, .Name (kStr k) pT] X.env = (false, eval a X.env) :: starEach [.Name (kStr k) pT] X.env) :
    PE X (.Call (.Name "isinstance" p) [a, .Name (kStr k) pT] [] pos) (tL X.K G fld W (.isi ma k)) := by
  have hT : PE X (.Name (kStr k) pT) (tC (.ty (kName k))) := pe_bltn hgT hmT (boot_kind k hk) rfl (by cases k <;> first | (cases hk; done) | decide +kernel) (by cases k <;> first | (cases hk; done) | decide +kernel)
  refine PEimp (pe_callB call_isi hgl hm (by decide +kernel) (pa_cons ha (pa_cons hT pa_nil) he) (by decide +kernel) (by decide +kernel) he) fun σ H Q ⟨r, m, Z, F, Qd, Ed, w, sl, hq, post, xp⟩ => ?_
  simp only [rdE] at hq
  refine ⟨r, m, Z, F, _, Ed, w, sl, hq, fun d1 m1 v1 H1 F1 q1 e1 w1 r1 => ?_, xp⟩
  obtain ⟨q, hi, hq⟩ := q1
  obtain ⟨t, ty, kb⟩ := isi_ok w1 r1 hk hi
  exact ⟨_, _, _, _, q, rfl, .ty _, ty, kit_ty kb, post _ m1 _ H1 F1 hq e1 w1 (.bl q)⟩
/-! ### methods -/
theorem s_append {m0 : Ex} {apos : Pos} (ho : PE X a (tL X.K G fld W m0)) (hb : PE X b (tL X.K G fld W mb))
    (hbase : attributeBase a "append" X.env (eval a X.env) = eval a X.env) (hs : starEach [b] X.env = [(false, eval b X.env)]) (hline : (apos.endLine == pos.line) = true) :
    PE X (.Call (.Attribute a "append" apos) [b] [] pos) (tL X.K G fld W (.met .append m0 (.cons mb .nil))) := by
  refine PEimp (pe_bm PySem.F.plainAttrs_list PySem.F.slot_list_append PySem.F.type_list_append mt_append ho (pa_cons hb pa_nil hs) hbase (by rw [hs]; rfl) hline hs (by rfl)) fun σ H Q ⟨r, m, Z, F, Qd, Ed, w, sl, hq, post, xp⟩ => ?_
  simp only [rdE, rdA] at hq
  refine ⟨r, m, Z, F, _, Ed, w, sl, hq, fun d1 m1 v1 H1 F1 q1 e1 w1 r1 => ?_, xp⟩
  obtain ⟨hm, q1⟩ := q1
  cases e : look m1 d1 with
  | lst xs =>
    obtain ⟨l, vs, rfl, hl, _⟩ := w1.lst r1 e
    refine ⟨.inl ⟨rfl, vs, SqL.of hl⟩, ?_⟩
    refine ⟨r, m1, Z, F1, _, Ed, w1, sl.mono e1.sm, q1, fun d2 m2 v2 H2 F2 q2 e2 w2 r2 => ?_, xp.ext e1⟩
    replace q2 : appendD _ _ _ _ := q2
    unfold appendD at q2
    split at q2
    · rename_i l' dd e2'
      cases e2'
      obtain ⟨xs, hx, hlen, hk⟩ := q2
      cases r1
      obtain ⟨hf, hz, vs, h1, h2, h3⟩ := w2.ob _ _ hx
      refine ⟨l, vs, v2, rfl, rfl, h1, by rw [h2.length, ← LINE_eq]; exact hlen, ?_⟩
      refine post _ _ _ _ F2 hk (e1.trans e2) (w2.set hx ⟨vs ++ [v2], upd_same, h2.append (.cons r2 .nil), ?_⟩) .non
      rw [List.length_append, h2.length]
      show xs.length + 1 ≤ LINE
      omega
    · exact q2.elim
  | _ => rw [e] at hm; cases hm
theorem s_pop {m0 : Ex} {apos : Pos} (ho : PE X a (tL X.K G fld W m0)) (hb : PE X b (tL X.K G fld W mb))
    (hbase : attributeBase a "pop" X.env (eval a X.env) = eval a X.env) (hs : starEach [b] X.env = [(false, eval b X.env)]) (hline : (apos.endLine == pos.line) = true) :
    PE X (.Call (.Attribute a "pop" apos) [b] [] pos) (tL X.K G fld W (.met .pop m0 (.cons mb .nil))) := by
  refine PEimp (pe_bm PySem.F.plainAttrs_list PySem.F.slot_list_pop PySem.F.type_list_pop mt_popAt ho (pa_cons hb pa_nil hs) hbase (by rw [hs]; rfl) hline hs (by rfl)) fun σ H Q ⟨r, m, Z, F, Qd, Ed, w, sl, hq, post, xp⟩ => ?_
  simp only [rdE, rdA] at hq
  refine ⟨r, m, Z, F, _, Ed, w, sl, hq, fun d1 m1 v1 H1 F1 q1 e1 w1 r1 => ?_, xp⟩
  obtain ⟨hm, q1⟩ := q1
  cases e : look m1 d1 with
  | lst xs =>
    obtain ⟨l, vs, rfl, hl, _⟩ := w1.lst r1 e
    refine ⟨.inl ⟨rfl, vs, SqL.of hl⟩, ?_⟩
    refine ⟨r, m1, Z, F1, _, Ed, w1, sl.mono e1.sm, q1, fun d2 m2 v2 H2 F2 q2 e2 w2 r2 => ?_, xp.ext e1⟩
    replace q2 : popD _ _ _ _ := q2
    unfold popD at q2
    split at q2
    · rename_i l' dd e2'
      cases e2'
      obtain ⟨xs, j, x, hx, hi, hj, hk⟩ := q2
      cases r1
      cases r2
      obtain ⟨hf, hz, vs, h1, h2, h3⟩ := w2.ob _ _ hx
      obtain ⟨y, hy, ry⟩ := h2.get hj
      have hi' : ixN vs.length dd = some j := by rw [h2.length]; exact hi
      obtain ⟨sq, hjn, lo, hi2⟩ := ixN_seq hi'
      have hz2 : (vs.length : Int) < 2 ^ 62 := by
        have : vs.length ≤ 16777216 := h3
        omega
      refine ⟨l, vs, dd, j, y, rfl, rfl, h1, by omega, by omega, sq, hy, ?_⟩
      refine post _ _ _ _ F2 hk (e1.trans e2) (w2.set hx ⟨vs.eraseIdx j, upd_same, h2.eraseIdx j, ?_⟩) ry
      exact Nat.le_trans (List.length_eraseIdx_le ..) h3
    · exact q2.elim
  | _ => rw [e] at hm; cases hm
theorem sjoin_joinL (s : S) : ∀ ss : List S, sjoin s ss = TL.joinL s ss
  | [] => rfl
  | [_] => rfl
  | x :: y :: r => by
    simp only [sjoin, TL.joinL]
    rw [sjoin_joinL s (y :: r), List.append_assoc]
theorem s_join {m0 : Ex} {apos : Pos} (ho : PE X a (tL X.K G fld W m0)) (hb : PE X b (tL X.K G fld W mb))
    (hbase : attributeBase a "join" X.env (eval a X.env) = eval a X.env) (hs : starEach [b] X.env = [(false, eval b X.env)]) (hline : (apos.endLine == pos.line) = true) :
    PE X (.Call (.Attribute a "join" apos) [b] [] pos) (tL X.K G fld W (.met .join m0 (.cons mb .nil))) := by
  refine PEimp (pe_bm PySem.F.plainAttrs_str PySem.F.slot_str_join PySem.F.type_str_join mt_join ho (pa_cons hb pa_nil hs) hbase (by rw [hs]; rfl) hline hs (by rfl)) fun σ H Q ⟨r, m, Z, F, Qd, Ed, w, sl, hq, post, xp⟩ => ?_
  simp only [rdE, rdA] at hq
  refine ⟨r, m, Z, F, _, Ed, w, sl, hq, fun d1 m1 v1 H1 F1 q1 e1 w1 r1 => ?_, xp⟩
  obtain ⟨hm, q1⟩ := q1
  cases e : look m1 d1 with
  | str xs =>
    obtain ⟨z, rfl, ez, cz⟩ := Wf.str r1 e
    refine ⟨rfl, ?_⟩
    refine ⟨r, m1, Z, F1, _, Ed, w1, sl.mono e1.sm, q1, fun d2 m2 v2 H2 F2 q2 e2 w2 r2 => ?_, xp.ext e1⟩
    replace q2 : joinD _ _ _ _ := q2
    unfold joinD at q2
    split at q2
    · rename_i s' dd e2'
      cases e2'
      cases e
      obtain ⟨ys, hy, ss, hss, hlen, hk⟩ := q2
      have fin : ∀ (p : Addr) (vs : List V), RelDs X.K F2 vs ys → v2 = .ref p → (SqL X.K H2 p vs ∨ SqT X.K H2 p vs) → ∃ a p, ∃ ys : List PySem.Str, V.str z = .str a ∧ [v2] = [.ref p] ∧ (SqL X.K H2 p (ys.map V.str) ∨ SqT X.K H2 p (ys.map V.str)) ∧
          (ys.map (·.length)).sum + ys.length * a.length ≤ 16777216 ∧ Q (.str (Txt.join a ys)) H2 := fun p vs rs ev hsq => by
        obtain ⟨ws, e3, e4, e5⟩ := strs_of rs hss
        subst e3
        have el : (ws.map (·.length)) = ss.map List.length := by
          rw [e4, List.map_map]
          exact List.map_congr_left fun y _ => lenS y
        refine ⟨z, p, ws, rfl, by rw [ev], hsq, ?_, ?_⟩
        · rw [el, lenS, ez]
          have : ws.length = ss.length := by rw [e4, List.length_map]
          rw [this]
          exact hlen
        · refine post _ m2 _ H2 F2 hk (e1.trans e2) w2 ?_
          have ej : (Txt.join z ws).cps.toList = sjoin xs ss := by
            rw [TL.join_eq, sjoin_joinL, e4, ← ez]
            exact TL.tl_join z ws
          rw [← ej]
          refine .str _ fun c hc => ?_
          rw [ej, sjoin_joinL] at hc
          have hall : ∀ (ss : List S), (∀ x ∈ ss, ∀ c ∈ x, c < 0x110000) → ∀ c ∈ TL.joinL xs ss, c < 0x110000 := by
            intro ss
            induction ss with
            | nil => intro _ c hc; cases hc
            | cons x t ih =>
              intro hx c hc
              cases t with
              | nil => exact hx x List.mem_cons_self c hc
              | cons y t =>
                have hc : c ∈ x ++ (xs ++ TL.joinL xs (y :: t)) := hc
                rcases List.mem_append.mp hc with h | h
                · exact hx x List.mem_cons_self c h
                · rcases List.mem_append.mp h with h | h
                  · exact cz c h
                  · exact ih (fun x hx' => hx x (List.mem_cons_of_mem _ hx')) c h
          refine hall ss (fun x hx c hc => ?_) c hc
          rw [e4] at hx
          obtain ⟨y, hy, rfl⟩ := List.mem_map.mp hx
          exact e5 y hy c hc
      rcases hy with hy | hy
      · obtain ⟨p, vs, rfl, hp, rs, _⟩ := w2.lst r2 hy
        exact fin p vs rs rfl (.inl (SqL.of hp))
      · obtain ⟨p, vs, rfl, _, hp, rs, _⟩ := w2.tup r2 hy
        exact fin p vs rs rfl (.inr (SqT.of hp))
    · exact q2.elim
  | _ => rw [e] at hm; cases hm
/-! ### frozen for good -/
theorem s_frz (ha : PE X a (tL X.K G fld W ma)) : PE X a (tL X.K G fld W (.frz ma)) := by
  refine PEimp ha fun σ H Q ⟨r, m, Z, F, Qd, Ed, w, sl, hq, post, xp⟩ => ?_
  simp only [rdE] at hq
  refine ⟨r, m, Z, F, _, Ed, w, sl, hq, fun d1 m1 v1 H1 F1 q1 e1 w1 r1 => ?_, xp⟩
  have key : ∀ (q : Addr) (o : DO) (u : HO), m1 q = some o → H1 q = some u → Wf X.K Z (upd F1 q u) H1 (m1.del q) ∧ Ext Z F1 (upd F1 q u) := fun q o u h1 h2 => by
    obtain ⟨hf, hz, _⟩ := w1.ob q o h1
    have w' : Wf X.K Z F1 H1 (m1.del q) := ⟨w1.sf, w1.sz, fun b x e => by
      unfold Mu.del at e
      by_cases hb : b = q
      · rw [if_pos hb] at e; cases e
      · rw [if_neg hb] at e; exact w1.ob b x e⟩
    exact w'.freeze h2 hf hz (by unfold Mu.del; rw [if_pos rfl])
  unfold frzD at q1
  split at q1
  · rename_i q
    cases r1
    split at q1
    · rename_i xs hx
      obtain ⟨_, _, vs, h1, h2, h3⟩ := w1.ob _ _ hx
      obtain ⟨w2, e2⟩ := key _ _ _ hx h1
      exact post _ _ _ H1 _ q1 (e1.trans e2) w2 (.lst upd_same (h2.mono e2.sm) h3)
    · rename_i xs hx
      obtain ⟨_, _, vs, h1, h2⟩ := w1.ob _ _ hx
      obtain ⟨w2, e2⟩ := key _ _ _ hx h1
      exact post _ _ _ H1 _ q1 (e1.trans e2) w2 (.dic (.inl upd_same) (h2.mono e2.sm))
    · rename_i xs hx
      obtain ⟨_, _, vs, h1, h2⟩ := w1.ob _ _ hx
      obtain ⟨w2, e2⟩ := key _ _ _ hx h1
      exact post _ _ _ H1 _ q1 (e1.trans e2) w2 (.dit (.inl upd_same) (h2.mono e2.sm))
    · rename_i c xs hx
      obtain ⟨_, _, dx, vs, h1, h2⟩ := w1.ob _ _ hx
      obtain ⟨w2, e2⟩ := key _ _ _ hx h1
      exact post _ _ _ H1 _ q1 (e1.trans e2) w2 (.ins upd_same (h2.mono e2.sm))
    · exact q1.elim
  · exact q1.elim
end
end DL

set_option Elab.async false
set_option linter.all false
set_option maxRecDepth 100000
set_option maxHeartbeats 2000000
namespace DL
open PySem L2
/-! ### targets -/
def gP (K : PySem.W.Frag) : Pat → TG
  | .name i => gName i
  | .pair a b => gTup K 2 (gCons (gP K a) (gCons (gP K b) gNil))
def pslots : Pat → List Nat
  | .name i => [i]
  | .pair a b => pslots a ++ pslots b
theorem wipe_set (σ : L2.St) (i : Nat) (x : Option V) : ∀ vs : List Nat, wipe (σ.set i x) vs = if i ∈ vs then wipe σ vs else (wipe σ vs).set i x
  | [] => by simp [wipe]
  | v :: vs => by
    unfold wipe
    rw [wipe_set σ i x vs]
    by_cases h : i ∈ vs
    · rw [if_pos h, if_pos (List.mem_cons_of_mem _ h)]
    · rw [if_neg h]
      by_cases e : i = v
      · subst e
        rw [if_pos List.mem_cons_self, List.set_set]
      · rw [if_neg (by simp [e, h]), List.set_comm _ _ (fun z => e z)]
theorem pat_ok {K : PySem.W.Frag} {Z F H : Hp} {m : Mu} (w : Wf K Z F H m) : ∀ (p : Pat) {d : DV} {v : V} {r : Env} {σ : L2.St} {k : Env → Prop} {Q : L2.St → Hp → Prop}, bindP p d r m k → RelD K F v d → Slots K F σ r →
    (∀ σ' r', Slots K F σ' r' → (∀ vs, (∀ i ∈ pslots p, i ∈ vs) → wipe σ' vs = wipe σ vs) → k r' → Q σ' H) → gP K p v σ H Q
  | .name i, d, v, r, σ, k, Q, h, rv, sl, q => by
    refine q _ _ (sl.set i rv) (fun vs hv => ?_) h.2
    rw [wipe_set, if_pos (hv i List.mem_cons_self)]
  | .pair a b, d, v, r, σ, k, Q, h, rv, sl, q => by
    simp only [bindP] at h
    split at h
    · rename_i x y e
      obtain ⟨t, vs, rfl, _, ht, rs, _⟩ := w.tup rv e
      cases rs with
      | cons r1 rs => cases rs with
        | cons r2 rs =>
          cases rs
          refine ⟨t, _, rfl, SqT.of ht, rfl, _, _, rfl, ?_⟩
          refine pat_ok w a h r1 sl fun σ1 q1 s1 w1 h1 => ?_
          refine ⟨_, _, rfl, ?_⟩
          refine pat_ok w b h1 r2 s1 fun σ2 q2 s2 w2 h2 => ⟨rfl, ?_⟩
          refine q σ2 q2 s2 (fun vs hv => ?_) h2
          rw [w2 vs fun i hi => hv i (List.mem_append_right _ hi), w1 vs fun i hi => hv i (List.mem_append_left _ hi)]
    · exact h.elim
/-! ### what is walked -/
def ItR (K : PySem.W.Frag) (F' : Hp) (src : Mu → Prop) (xs : List DV) (J : L2.It) : Prop :=
  ∀ Z m H F, Same F' F → Wf K Z F H m → src m → ∀ i,
    (i < xs.length → J.go i H ∧ ∀ x H1, J.yld i H x H1 → ∃ F1 d, Ext Z F F1 ∧ Wf K Z F1 H1 m ∧ xs[i]? = some d ∧ RelD K F1 x d) ∧ (xs.length ≤ i → J.stop i H)
section
variable (K : PySem.W.Frag) (G : Nat → Option Fn) (fld : Nat → Addr × PySem.Str)
def tLW (W : WX) (e : It) : TI := fun σ H R => ∃ r m Z F Qd Ed, Wf K Z F H m ∧ Slots K F σ r ∧ rdW G e r m Qd Ed ∧
  (∀ src xs m' H' F' J, Qd src xs m' → Ext Z F F' → Wf K Z F' H' m' → ItR K F' src xs J → (isRng e = false → xs.length ≤ LINE) → R J H') ∧ XOk K fld W Z F σ Ed
end
section
variable {X : Cx} {G : Nat → Option Fn} {fld : Nat → Addr × PySem.Str} {W : WX} {a b c : Expr} {ma mb mc : Ex} {pos p : Pos} {tg : Expr}
theorem PIimp {e : Expr} {t t' : TI} (h : PI X tg e t) (i : ∀ σ H Q, t' σ H Q → t σ H Q) : PI X tg e t' := ⟨fun pins s σ H Q I q => h.run pins s σ H Q I (i σ H Q q)⟩
/-- a list, a tuple, a text -/
theorem pi_seq {e : Expr} {te : TE} (he : PE X e te) : PI X tg e (fun σ H R => te σ H fun x H1 => (∃ a, x = .ref a ∧ (∃ xs, SqL X.K H1 a xs) ∧ R (Itl X.K a) H1) ∨ (∃ a, x = .ref a ∧ (∃ xs, SqT X.K H1 a xs) ∧ R (Itt X.K a) H1) ∨ ∃ z, x = .str z ∧ R (L2.Its z) H1) := by
  refine ⟨fun pins s σ H R I h => ?_⟩
  refine thn (he.run pins s σ H _ I h) fun v s1 ⟨x, H1, I1, r1, q1⟩ => ?_
  rcases q1 with ⟨a, e, ⟨xs, hq⟩, q⟩ | ⟨a, e, ⟨xs, hq⟩, q⟩ | ⟨z, e, q⟩
  · subst e
    cases r1
    obtain ⟨its, rv, p, hz⟩ := I1.list hq
    refine wpAny_pyIter_list p.isList ?_
    exact pi_one (tk := s1.toks) I1 _ (turn_list a _) ⟨_, Heap.get?_push_size _ rfl, rfl, rfl⟩ q
  · subst e
    cases r1
    obtain ⟨its, rv, p, hz⟩ := I1.tuple hq
    refine wpAny_pyIter_tuple (show s1.heap.IsTuple a its.toArray from p) ?_
    exact pi_one (tk := s1.toks) I1 _ (turn_tuple a _) ⟨_, Heap.get?_push_size _ rfl, rfl, rfl⟩ q
  · subst e
    obtain ⟨t, rfl⟩ := r1
    cases ha : z.cps.all (· < 128)
    · exact wpAny_pyIter_wide ha (pi_one (tk := s1.toks) I1 _ (turn_str _ z t "str_iterator" (.inr rfl)) ⟨_, Heap.get?_push_size _ rfl, rfl, rfl⟩ q)
    · exact wpAny_pyIter_ascii ha (pi_one (tk := s1.toks) I1 _ (turn_str _ z t "str_ascii_iterator" (.inl rfl)) ⟨_, Heap.get?_push_size _ rfl, rfl, rfl⟩ q)
theorem itl_ok {K : PySem.W.Frag} {F' : Hp} {v : V} {x : DV} {a : Addr} {xs : List DV} (r : RelD K F' v x) (ev : v = .ref a) : ItR K F' (fun m => look m x = .lst xs) xs (Itl K a) := by
  intro Z m H F e w hs i
  obtain ⟨b, vs, h0, h1, h2, _⟩ := w.lst (r.mono e) hs
  rw [ev] at h0
  cases h0
  refine ⟨fun hi => ?_, fun hi => ⟨vs, SqL.of h1, by rw [h2.length]; exact hi⟩⟩
  obtain ⟨y, hy, ry⟩ := h2.get (List.getElem?_eq_getElem hi)
  refine ⟨⟨vs, y, SqL.of h1, hy⟩, fun x' H1 hy' => ?_⟩
  obtain ⟨rfl, hx⟩ := hy'
  have z := hx vs (SqL.of h1)
  rw [hy] at z
  cases z
  exact ⟨F, xs[i], Ext.refl Z F, w, List.getElem?_eq_getElem hi, ry⟩
theorem itt_ok {K : PySem.W.Frag} {F' : Hp} {v : V} {x : DV} {a : Addr} {xs : List DV} (r : RelD K F' v x) (ev : v = .ref a) : ItR K F' (fun m => look m x = .tup xs) xs (Itt K a) := by
  intro Z m H F e w hs i
  obtain ⟨b, vs, h0, _, h1, h2, _⟩ := w.tup (r.mono e) hs
  rw [ev] at h0
  cases h0
  refine ⟨fun hi => ?_, fun hi => ⟨vs, SqT.of h1, by rw [h2.length]; exact hi⟩⟩
  obtain ⟨y, hy, ry⟩ := h2.get (List.getElem?_eq_getElem hi)
  refine ⟨⟨vs, y, SqT.of h1, hy⟩, fun x' H1 hy' => ?_⟩
  obtain ⟨rfl, hx⟩ := hy'
  have z := hx vs (SqT.of h1)
  rw [hy] at z
  cases z
  exact ⟨F, xs[i], Ext.refl Z F, w, List.getElem?_eq_getElem hi, ry⟩
theorem its_ok {K : PySem.W.Frag} {F' : Hp} {z : PySem.Str} (hz : ∀ c ∈ z.cps.toList, c < 0x110000) {src : Mu → Prop} : ItR K F' src (z.cps.toList.map fun c => .str [c]) (L2.Its z) := by
  intro Z m H F e w hs i
  refine ⟨fun hi => ?_, fun hi => ?_⟩
  · rw [List.length_map] at hi
    refine ⟨show i < z.cps.size by simpa using hi, fun x' H1 hy' => ?_⟩
    obtain ⟨rfl, c, hc, rfl⟩ := hy'
    have hc2 : z.cps.toList[i]? = some c := by simpa using hc
    refine ⟨F, .str [c], Ext.refl Z F, w, by rw [List.getElem?_map, hc2]; rfl, ?_⟩
    have h := RelD.str (K := K) (F := F) ⟨#[c]⟩ (fun c' hc' => by
      have : c' = c := by simpa using hc'
      rw [this]; exact hz c (List.mem_of_getElem? hc2))
    exact h
  · rw [List.length_map] at hi
    show z.cps.size ≤ i
    simpa using hi
theorem itr_ok {K : PySem.W.Frag} {F' : Hp} {lo : Int} {n : Nat} {src : Mu → Prop} : ItR K F' src (rangeL lo n 1) (Itr lo n) := by
  intro Z m H F e w hs i
  have hl : (rangeL lo n 1).length = n := by unfold rangeL; rw [List.length_map, List.length_range]
  rw [hl]
  refine ⟨fun hi => ⟨hi, fun x' H1 hy' => ?_⟩, fun hi => hi⟩
  obtain ⟨rfl, rfl⟩ := hy'
  refine ⟨F, .int (lo + i), Ext.refl Z F, w, ?_, .int _⟩
  unfold rangeL
  rw [List.getElem?_map, List.getElem?_range hi]
  simp
theorem itc_ok {K : PySem.W.Frag} {F' : Hp} {lo c : Int} {n : Nat} {src : Mu → Prop} : ItR K F' src (rangeL lo n c) (Itc lo c n) := by
  intro Z m H F e w hs i
  have hl : (rangeL lo n c).length = n := by unfold rangeL; rw [List.length_map, List.length_range]
  rw [hl]
  refine ⟨fun hi => ⟨hi, fun x' H1 hy' => ?_⟩, fun hi => hi⟩
  obtain ⟨rfl, rfl⟩ := hy'
  refine ⟨F, .int (lo + i * c), Ext.refl Z F, w, ?_, .int _⟩
  unfold rangeL
  rw [List.getElem?_map, List.getElem?_range hi]
  simp
theorem items_cases {d : DV} {xs : List DV} (h : itemsD d = some xs) : d = .lst xs ∨ d = .tup xs ∨ (∃ s, d = .str s ∧ xs = s.map fun c => .str [c]) ∨ ∃ ns : List Int, d = .scr ns ∧ xs = ns.map .int := by
  cases d <;> simp_all [itemsD]
theorem ItR.imp {K : PySem.W.Frag} {F' : Hp} {src src' : Mu → Prop} {xs : List DV} {J : L2.It} (h : ItR K F' src xs J) (i : ∀ m, src' m → src m) : ItR K F' src' xs J := fun Z m H F e w s => h Z m H F e w (i m s)
theorem s_seq (ha : PE X a (tL X.K G fld W ma)) : PI X tg a (tLW X.K G fld W (.seq ma)) := by
  refine PIimp (pi_seq ha) fun σ H R ⟨r, m, Z, F, Qd, Ed, w, sl, hq, post, xp⟩ => ?_
  simp only [rdW] at hq
  refine ⟨r, m, Z, F, _, Ed, w, sl, hq, fun d1 m1 v1 H1 F1 q1 e1 w1 r1 => ?_, xp⟩
  obtain ⟨xs, hx, hsl, hk⟩ := q1
  rcases items_cases hx with hy | hy | ⟨s, hy, rfl⟩ | ⟨ns, hy, rfl⟩
  · obtain ⟨l, vs, rfl, hl, rs, hlen⟩ := w1.lst r1 hy
    refine .inl ⟨l, rfl, ⟨vs, SqL.of hl⟩, post _ _ m1 H1 F1 _ hk e1 w1 ?_ (fun _ => by rw [← rs.length]; exact hlen)⟩
    intro Z m H F e w hs
    -- the thing at d1 is a list, now and ever
    have hs' : look m d1 = .lst xs := by
      rcases items_cases hs with h | h | ⟨s, h, _⟩ | ⟨ns, h, _⟩
      · exact h
      · obtain ⟨l', _, h0, _, ht, _⟩ := w.tup (r1.mono e) h
        cases h0
        cases d1 with
        | loc q => unfold look at h; simp only at h; split at h <;> cases h
        | _ => rw [look_of rfl] at h hy; rw [h] at hy; cases hy
      · obtain ⟨_, h0, _⟩ := Wf.str (r1.mono e) h
        cases h0
      · cases d1 with
        | loc q => unfold look at h; simp only at h; split at h <;> cases h
        | _ => rw [look_of rfl] at h hy; rw [h] at hy; cases hy
    exact itl_ok r1 rfl Z m H F e w hs'
  · obtain ⟨l, vs, rfl, _, hl, rs, hlen⟩ := w1.tup r1 hy
    refine .inr (.inl ⟨l, rfl, ⟨vs, SqT.of hl⟩, post _ _ m1 H1 F1 _ hk e1 w1 ?_ (fun _ => by rw [← rs.length]; exact hlen)⟩)
    intro Z m H F e w hs
    have hs' : look m d1 = .tup xs := by
      cases d1 with
      | loc q => unfold look at hy; simp only at hy; split at hy <;> cases hy
      | _ => rw [look_of rfl] at hy ⊢; exact hy
    exact itt_ok r1 rfl Z m H F e w hs'
  · obtain ⟨z, rfl, ez, cz⟩ := Wf.str r1 hy
    refine .inr (.inr ⟨z, rfl, post _ _ m1 H1 F1 _ hk e1 w1 ?_ ?_⟩)
    · rw [← ez]
      exact its_ok (by rw [ez]; exact cz)
    · intro _
      rw [List.length_map]
      exact hsl _ hy
  · obtain ⟨l, rfl, hl, hlen⟩ := w1.scr r1 hy
    refine .inl ⟨l, rfl, ⟨_, hl⟩, post _ _ m1 H1 F1 _ hk e1 w1 ?_ (fun _ => by rw [List.length_map]; exact hlen)⟩
    have hF : SqL X.K F1 l (ns.map V.int) := by
      cases r1 with
      | scr h _ => rw [look_of rfl] at hy; cases hy; exact h
      | loc a => unfold look at hy; simp only at hy; split at hy <;> cases hy
      | _ => cases hy
    intro Z m H F e w hs i
    have hq : SqL X.K H l (ns.map V.int) := Same.seq w.sf (Same.seq e hF)
    refine ⟨fun hi => ?_, fun hi => ⟨_, hq, by simpa using hi⟩⟩
    have hi' : i < ns.length := by simpa using hi
    have g1 : (ns.map V.int)[i]? = some (.int ns[i]) := by rw [List.getElem?_map, List.getElem?_eq_getElem hi']; rfl
    refine ⟨⟨_, _, hq, g1⟩, fun x' H2 hy' => ?_⟩
    obtain ⟨rfl, hx⟩ := hy'
    have z := hx _ hq
    rw [g1] at z
    cases z
    exact ⟨F, .int ns[i], Ext.refl Z F, w, by rw [List.getElem?_map, List.getElem?_eq_getElem hi']; rfl, .int _⟩
theorem s_range1 (hg : Gl X "range") (hm : X.mg "range" = none) (ha : PE X a (tL X.K G fld W ma)) (hs : starEach [a] X.env = [(false, eval a X.env)]) : PI X tg (.Call (.Name "range" p) [a] [] pos) (tLW X.K G fld W (.range1 ma)) := by
  refine PIimp (pi_range1 hg hm (pa_cons ha pa_nil hs) hs) fun σ H R ⟨r, m, Z, F, Qd, Ed, w, sl, hq, post, xp⟩ => ?_
  simp only [rdW] at hq
  refine ⟨r, m, Z, F, _, Ed, w, sl, hq, fun d1 m1 v1 H1 F1 q1 e1 w1 r1 => ?_, xp⟩
  obtain ⟨n, rfl, h1, h2, hk⟩ := q1
  cases r1
  exact ⟨n, rfl, by omega, by omega, post _ _ m1 H1 F1 _ hk e1 w1 itr_ok (fun h => by cases h)⟩
theorem s_range2 (hg : Gl X "range") (hm : X.mg "range" = none) (ha : PE X a (tL X.K G fld W ma)) (hb : PE X b (tL X.K G fld W mb)) (hs : starEach [a, b] X.env = [(false, eval a X.env), (false, eval b X.env)]) (hs2 : starEach [b] X.env = [(false, eval b X.env)]) :
    PI X tg (.Call (.Name "range" p) [a, b] [] pos) (tLW X.K G fld W (.range2 ma mb)) := by
  refine PIimp (pi_range2 hg hm (pa_cons ha (pa_cons hb pa_nil hs2) (by rw [hs, hs2])) hs hs2) fun σ H R ⟨r, m, Z, F, Qd, Ed, w, sl, hq, post, xp⟩ => ?_
  simp only [rdW] at hq
  refine ⟨r, m, Z, F, _, Ed, w, sl, hq, fun d1 m1 v1 H1 F1 q1 e1 w1 r1 => ?_, xp⟩
  refine ⟨r, m1, Z, F1, _, Ed, w1, sl.mono e1.sm, q1, fun d2 m2 v2 H2 F2 q2 e2 w2 r2 => ?_, xp.ext e1⟩
  obtain ⟨i, n, rfl, rfl, ⟨h1, h2, h3, h4⟩, hk⟩ := q2
  cases r1
  cases r2
  exact ⟨i, n, rfl, ⟨by omega, by omega, by omega, by omega⟩, post _ _ m2 H2 F2 _ hk (e1.trans e2) w2 itr_ok (fun h => by cases h)⟩
/-! ### comprehensions -/
theorem wipe_slots {K : PySem.W.Frag} {F : Hp} {σ : L2.St} {r : Env} (h : Slots K F σ r) : ∀ vs : List Nat, Slots K F (wipe σ vs) (vs.foldr (fun i q => q.set i none) r)
  | [] => h
  | v :: vs => (wipe_slots h vs).del v
theorem n_comp {elt tg iter : Expr} {ifs : List Expr} {scope : Scope} {own : List (PySem.Str × Nat)} {pp : Pat} {vs : List Nat} {it : It} {t : Ts} {me : Ex} (hc : X.calm = true) (hN : X.N.Nodup) (hi : PI X tg iter (tLW X.K G fld W it)) (ok : BlkOk X.N X.env.scope scope own) (hv : own.map (·.2) = vs) (hp : ∀ i ∈ pslots pp, i ∈ vs)
    (hg : ∀ (s : Shared) (H : Hp) (C : Addr) (cl : List (PySem.Str × Addr)) (fp : List Addr), PG (X.blk s H scope (compEnvC scope cl C X.env) fp) tg (gP X.K pp))
    (ht : ∀ (s : Shared) (H : Hp) (C : Addr) (cl : List (PySem.Str × Addr)) (fp : List Addr), PTs (X.blk s H scope (compEnvC scope cl C X.env) fp) ifs (tLT X.K G fld (fun _ _ _ _ => False) t))
    (he : ∀ (s : Shared) (H : Hp) (C : Addr) (cl : List (PySem.Str × Addr)) (fp : List Addr), PE (X.blk s H scope (compEnvC scope cl C X.env) fp) elt (tL X.K G fld (fun _ _ _ _ => False) me)) (hs : ∀ x, foldedSetIterable iter X.env x = pure x) :
    ∀ σ H Q, tN X.K G fld W (.comp pp vs it t me) σ H Q → tLc (tLW X.K G fld W it) (gP X.K pp) (tLT X.K G fld (fun _ _ _ _ => False) t) (tL X.K G fld (fun _ _ _ _ => False) me) (own.map (·.2)) σ H Q := by
  intro σ H Q ⟨r, m, Z, F, Qd, Ed, w, sl, hq, post, xp⟩
  rw [hv]
  simp only [rdE] at hq
  refine ⟨r, m, Z, F, _, Ed, w, sl, hq, fun src xs m1 H1 F1 J q1 e1 w1 iR hlen => ?_, xp⟩
  obtain ⟨hrng, q1⟩ := q1
  have hxl : xs.length ≤ LINE := by
    cases e : isRng it with
    | true => exact hrng e
    | false => exact hlen e
  intro D hD
  obtain ⟨T, hT⟩ : ∃ T : DV → Mu → (Option DV → Mu → Prop) → Prop, T = fun x m2 kk => bindP pp x (vs.foldr (fun i q => q.set i none) r) m2 fun r2 => rdT G t r2 m2 (fun c m3 => if c = true then rdE G me r2 m3 (fun d m4 => kk (some d) m4) (fun _ _ => False) else kk none m3) (fun _ _ => False) := ⟨_, rfl⟩
  rw [← hT] at q1
  -- the walk's word
  refine ⟨fun i n H' => ∃ m' F' acc vsD, n = xs.length - i ∧ i ≤ xs.length ∧ Ext Z F1 F' ∧ Wf X.K Z F' H' m' ∧ H' D = some (.lst vsD) ∧ F' D = none ∧ Z D = none ∧ m' D = none ∧ RelDs X.K F' vsD acc ∧ vsD.length ≤ i ∧
      compW T src (xs.drop i) acc m' (fun ds m2 => Qd (.lst ds) m2), ⟨xs.length, m1, F1, [], [], ?_⟩, ?_⟩
  · obtain ⟨w2, p, vs2, ds2, e1', e2', h3, h4, h5, h6, h7, h8⟩ := w1.fresh (vs := []) (ds := []) hD .nil (Nat.zero_le _)
    cases e1'
    cases e2'
    exact ⟨by simp, Nat.zero_le _, Ext.refl Z F1, w2, upd_same, h4, h5, h6, .nil, Nat.zero_le _, by simpa using q1⟩
  · rintro i n H' ⟨m', F', acc, vsD, rfl, hi', e', w', hD', fD, zD, mD, rD, lD, hW⟩
    by_cases hlt : i < xs.length
    · rw [List.drop_eq_getElem_cons hlt] at hW
      simp only [compW] at hW
      obtain ⟨hsrc, hW⟩ := hW
      obtain ⟨hgo, hyl⟩ := (iR Z m' H' F' e'.sm w' hsrc i).1 hlt
      refine .inr ⟨hgo, fun H2 => ∃ m' F' acc vsD, Ext Z F1 F' ∧ Wf X.K Z F' H2 m' ∧ H2 D = some (.lst vsD) ∧ F' D = none ∧ Z D = none ∧ m' D = none ∧ RelDs X.K F' vsD acc ∧ vsD.length ≤ i + 1 ∧
          compW T src (xs.drop (i + 1)) acc m' (fun ds m2 => Qd (.lst ds) m2), fun H2 ⟨m2, F2, acc2, vs2, y1, y2, y3, y4, y5, y6, y7, y8, y9⟩ => ⟨xs.length - (i + 1), by omega, m2, F2, acc2, vs2, rfl, hlt, y1, y2, y3, y4, y5, y6, y7, y8, y9⟩, fun x H2 hy => ?_⟩
      -- the list that grows is kept by the frame
      have wD : Wf X.K (upd Z D (.lst vsD)) F' H' m' := ⟨w'.sf, fun b u e => by
        by_cases hb : b = D
        · subst hb; rw [upd_same] at e; cases e; exact hD'
        · rw [upd_ne hb] at e; exact w'.sz b u e, fun q u e => by
        obtain ⟨a1, a2, a3⟩ := w'.ob q u e
        have hq : q ≠ D := fun z => by rw [z, mD] at e; cases e
        exact ⟨a1, by rw [upd_ne hq]; exact a2, a3⟩⟩
      have hnD : ∀ {F2 : Hp}, Ext (upd Z D (.lst vsD)) F' F2 → F2 D = none := fun {F2} e => by
        cases z : F2 D with
        | none => rfl
        | some o =>
          rcases e.new D o z with y | y
          · rw [fD] at y; cases y
          · rw [upd_same] at y; cases y
      have toZ : ∀ {F2 : Hp}, Ext (upd Z D (.lst vsD)) F' F2 → Ext Z F' F2 := fun {F2} e => ⟨e.sm, fun b o h => by
        rcases e.new b o h with y | y
        · exact .inl y
        · by_cases hb' : b = D
          · subst hb'; rw [hnD e] at h; cases h
          · rw [upd_ne hb'] at y; exact .inr y⟩
      -- one turn is through: m2, F2, H2 behind it
      have thru : ∀ {m2 : Mu} {F2 H2 : Hp}, Ext (upd Z D (.lst vsD)) F' F2 → Wf X.K (upd Z D (.lst vsD)) F2 H2 m2 → H2 D = some (.lst vsD) ∧ F2 D = none ∧ m2 D = none ∧ Wf X.K Z F2 H2 m2 := fun {m2 F2 H2} e w2 => by
        refine ⟨w2.sz D _ upd_same, hnD e, ?_, w2.sf, fun b u h => ?_, fun q u h => ?_⟩
        · cases z : m2 D with
          | none => rfl
          | some o =>
            have := (w2.ob D o z).2.1
            rw [upd_same] at this; cases this
        · have hb : b ≠ D := ne_of_none h zD
          exact w2.sz b u (by rw [upd_ne hb]; exact h)
        · obtain ⟨a1, a2, a3⟩ := w2.ob q u h
          refine ⟨a1, ?_, a3⟩
          have hq : q ≠ D := fun z => by rw [z, upd_same] at a2; cases a2
          rw [upd_ne hq] at a2; exact a2
      obtain ⟨F2, d, e2, w2, hd, rd⟩ := ((iR (upd Z D (.lst vsD)) m' H' F' e'.sm wD hsrc i).1 hlt).2 x H2 hy
      rw [List.getElem?_eq_getElem hlt] at hd
      cases hd
      rw [hT] at hW
      refine pat_ok w2 pp hW rd (wipe_slots (sl.mono (e1.trans (e'.trans (toZ e2))).sm) vs) fun σ2 r2 s2 hwp h2 => ⟨?_, ?_⟩
      · rw [hwp vs hp]
        -- wiped twice is wiped
        have ww : ∀ (us : List Nat) (σ : L2.St), (∀ u ∈ us, u ∈ vs) → wipe (wipe σ us) vs = wipe σ vs := by
          intro us
          induction us with
          | nil => intro σ _; rfl
          | cons u us ih =>
            intro σ hu
            show wipe ((wipe σ us).set u none) vs = _
            rw [wipe_set, if_pos (hu u List.mem_cons_self)]
            exact ih σ fun x hx => hu x (List.mem_cons_of_mem _ hx)
        exact ww vs σ fun _ h => h
      · refine ⟨r2, m', upd Z D (.lst vsD), F2, _, _, w2, s2, h2, fun b m3 b' H3 F3 q3 e3 w3 hb => ?_, fun x m' H' F' cls dd h => h.elim⟩
        cases hb
        cases b with
        | true =>
          have q3 := q3
          rw [if_pos rfl] at q3
          show tL X.K G fld (fun _ _ _ _ => False) me σ2 H3 _
          refine ⟨r2, m3, upd Z D (.lst vsD), F3, _, _, w3, s2.mono e3.sm, q3, fun d4 m4 v4 H4 F4 q4 e4 w4 r4 => ?_, fun x m' H' F' cls dd h => h.elim⟩
          obtain ⟨y1, y2, y3, y4⟩ := thru (e2.trans (e3.trans e4)) w4
          refine ⟨vsD, y1, ?_, m4, F4, acc ++ [d4], vsD ++ [v4], e'.trans (toZ (e2.trans (e3.trans e4))), ?_, upd_same, y2, zD, y3, ?_, ?_, ?_⟩
          · have h1 : vsD.length < LINE := by omega
            rw [← LINE_eq]
            exact h1
          · refine ⟨fun b u h => ?_, fun b u h => ?_, fun q u h => ?_⟩
            · rw [upd_ne (ne_of_none h y2)]; exact y4.sf b u h
            · rw [upd_ne (ne_of_none h zD)]; exact y4.sz b u h
            · obtain ⟨a1, a2, a3⟩ := y4.ob q u h
              have hq : q ≠ D := fun z => by rw [z, y3] at h; cases h
              exact ⟨a1, a2, a3.mono (fun _ _ h => h) fun u hu => by rw [upd_ne hq]; exact hu⟩
          · exact (rD.mono (e2.trans (e3.trans e4)).sm).append (.cons r4 .nil)
          · rw [List.length_append]
            show vsD.length + 1 ≤ i + 1
            omega
          · rw [hT]; exact q4
        | false =>
          have q3 := q3
          rw [if_neg (by decide)] at q3
          obtain ⟨y1, y2, y3, y4⟩ := thru (e2.trans e3) w3
          exact ⟨m3, F3, acc, vsD, e'.trans (toZ (e2.trans e3)), y4, y1, y2, zD, y3, rD.mono (e2.trans e3).sm, by omega, by rw [hT]; exact q3⟩
    · have e0 : i = xs.length := by omega
      subst e0
      rw [List.drop_length] at hW
      simp only [compW] at hW
      refine .inl ⟨(iR Z m' H' F' e'.sm w' hW.1 xs.length).2 (Nat.le_refl _), ?_⟩
      exact post _ m' _ H' F' hW.2 (e1.trans e') w' ⟨D, vsD, acc, rfl, rfl, hD', fD, zD, mD, rD, by omega⟩
end
end DL

set_option Elab.async false
set_option linter.all false
set_option maxRecDepth 100000
set_option maxHeartbeats 2000000
namespace DL
open PySem L2
/-- what is wanted behind, lifted -/
structure EndsOk (K : PySem.W.Frag) (fld : Nat → Addr × PySem.Str) (W : WX) (Z F : Hp) (Dd : DL.Ends) (D : L2.Ends) : Prop where
  nx : ∀ r' m' σ' H' F', Dd.nx r' m' → Ext Z F F' → Wf K Z F' H' m' → Slots K F' σ' r' → D.nx σ' H'
  rt : ∀ d m' v H' F', Dd.rt d m' → Ext Z F F' → Wf K Z F' H' m' → RelD K F' v d → D.rt v H'
  bk : ∀ r' m' σ' H' F', Dd.bk r' m' → Ext Z F F' → Wf K Z F' H' m' → Slots K F' σ' r' → D.bk σ' H'
  ct : ∀ r' m' σ' H' F', Dd.ct r' m' → Ext Z F F' → Wf K Z F' H' m' → Slots K F' σ' r' → D.ct σ' H'
  ex : ∀ x r' m' σ' H' F' cls dd, Dd.ex x r' m' → Ext Z F F' → Wf K Z F' H' m' → Slots K F' σ' r' → ExcR K fld Z F' H' m' x cls dd → W cls dd σ' H'
theorem EndsOk.ext {K : PySem.W.Frag} {fld : Nat → Addr × PySem.Str} {W : WX} {Z F F1 : Hp} {Dd : DL.Ends} {D : L2.Ends} (h : EndsOk K fld W Z F Dd D) (e : Ext Z F F1) : EndsOk K fld W Z F1 Dd D :=
  ⟨fun r m σ H F' a b c d => h.nx r m σ H F' a (e.trans b) c d, fun r m σ H F' a b c d => h.rt r m σ H F' a (e.trans b) c d, fun r m σ H F' a b c d => h.bk r m σ H F' a (e.trans b) c d,
    fun r m σ H F' a b c d => h.ct r m σ H F' a (e.trans b) c d, fun x r m σ H F' cls dd a b c d f => h.ex x r m σ H F' cls dd a (e.trans b) c d f⟩
theorem EndsOk.xok {K : PySem.W.Frag} {fld : Nat → Addr × PySem.Str} {W : WX} {Z F : Hp} {Dd : DL.Ends} {D : L2.Ends} {σ : L2.St} {r : Env} (h : EndsOk K fld W Z F Dd D) (s : Slots K F σ r) : XOk K fld W Z F σ (fun x m => Dd.ex x r m) :=
  fun x m' H' F' cls dd a b c d => h.ex x r m' σ H' F' cls dd a b c (s.mono b.sm) d
section
variable (K : PySem.W.Frag) (G : Nat → Option Fn) (fld : Nat → Addr × PySem.Str)
def liftS (W : WX) (rd : DL.Ends → Env → Mu → Prop) : TS := fun D σ H => ∃ r m Z F Dd, Wf K Z F H m ∧ Slots K F σ r ∧ rd Dd r m ∧ EndsOk K fld W Z F Dd D
def tLS (W : WX) (s : St) : TS := liftS K fld W (rdS G s)
def tLSs (W : WX) (s : Sts) : TS := liftS K fld W (rdSs G s)
end
section
variable {X : Cx} {G : Nat → Option Fn} {fld : Nat → Addr × PySem.Str} {W : WX} {a b c : Expr} {ma mb mc : Ex} {pos p : Pos}
theorem PSimp {s : Stmt} {t t' : TS} (h : PS X s t) (i : ∀ D σ H, t' D σ H → t D σ H) : PS X s t' := ⟨fun pins s σ H D I q => h.run pins s σ H D I (i D σ H q)⟩
theorem PSsimp {s : List Stmt} {t t' : TS} (h : PSs X s t) (i : ∀ D σ H, t' D σ H → t D σ H) : PSs X s t' := ⟨fun pins s σ H D I q => h.run pins s σ H D I (i D σ H q)⟩
/-- x = e, by any reading t of e that the lifted one gives -/
theorem s_setG {tg e : Expr} {pp : Pat} {t : TE} (h : PS X (.Assign [tg] e pos) (tAsg t (gP X.K pp))) (i : ∀ σ H Q, tL X.K G fld W ma σ H Q → t σ H Q) : PS X (.Assign [tg] e pos) (tLS X.K G fld W (.set pp ma)) := by
  refine PSimp h fun D σ H ⟨r, m, Z, F, Dd, w, sl, hq, ok⟩ => i σ H _ ?_
  simp only [rdS] at hq
  refine ⟨r, m, Z, F, _, _, w, sl, hq, fun d m1 v H1 F1 q1 e1 w1 r1 => ?_, ok.xok sl⟩
  exact pat_ok w1 pp q1 r1 (sl.mono e1.sm) fun σ' r' s' _ hk => ok.nx r' m1 σ' H1 F1 hk e1 w1 s'
theorem s_exp (h : PS X (.Expr a pos) (tDrop (tL X.K G fld W ma))) : PS X (.Expr a pos) (tLS X.K G fld W (.exp ma)) := by
  refine PSimp h fun D σ H ⟨r, m, Z, F, Dd, w, sl, hq, ok⟩ => ?_
  simp only [rdS] at hq
  exact ⟨r, m, Z, F, _, _, w, sl, hq, fun d m1 v H1 F1 q1 e1 w1 r1 => ok.nx r m1 σ H1 F1 q1 e1 w1 (sl.mono e1.sm), ok.xok sl⟩
theorem s_ret (ha : PE X a (tL X.K G fld W ma)) : PS X (.Return (some a) pos) (tLS X.K G fld W (.ret ma)) := by
  refine PSimp (ps_ret ha) fun D σ H ⟨r, m, Z, F, Dd, w, sl, hq, ok⟩ => ?_
  simp only [rdS] at hq
  exact ⟨r, m, Z, F, _, _, w, sl, hq, fun d m1 v H1 F1 q1 e1 w1 r1 => ok.rt d m1 v H1 F1 q1 e1 w1 r1, ok.xok sl⟩
theorem s_retN : PS X (.Return none pos) (tLS X.K G fld W .retN) := by
  refine PSimp ps_retN fun D σ H ⟨r, m, Z, F, Dd, w, sl, hq, ok⟩ => ?_
  exact ok.rt .non m .non H F hq (Ext.refl Z F) w .non
theorem s_nil : PSs X [] (tLSs X.K G fld W .nil) := PSsimp pss_nil fun D σ H ⟨r, m, Z, F, Dd, w, sl, hq, ok⟩ => ok.nx r m σ H F hq (Ext.refl Z F) w sl
theorem s_cons {st : Stmt} {rest : List Stmt} {ms : St} {mr : Sts} (h1 : PS X st (tLS X.K G fld W ms)) (h2 : PSs X rest (tLSs X.K G fld W mr)) : PSs X (st :: rest) (tLSs X.K G fld W (.cons ms mr)) := by
  refine PSsimp (pss_cons h1 h2) fun D σ H ⟨r, m, Z, F, Dd, w, sl, hq, ok⟩ => ?_
  simp only [rdSs] at hq
  refine ⟨r, m, Z, F, _, w, sl, hq, ?_⟩
  exact ⟨fun r' m' σ' H' F' q e' w' s' => ⟨r', m', Z, F', Dd, w', s', q, ok.ext e'⟩, ok.rt, ok.bk, ok.ct, ok.ex⟩
theorem s_ifs {c : Expr} {sa sb : List Stmt} {t : Ts} {ma mb : Sts} (hc : PT X c (tLT X.K G fld W t)) (ha : PSs X sa (tLSs X.K G fld W ma)) (hb : PSs X sb (tLSs X.K G fld W mb)) : PS X (.If c sa sb pos) (tLS X.K G fld W (.ifs t ma mb)) := by
  refine PSimp (ps_if hc ha hb) fun D σ H ⟨r, m, Z, F, Dd, w, sl, hq, ok⟩ => ?_
  simp only [rdS] at hq
  refine ⟨r, m, Z, F, _, _, w, sl, hq, fun d m1 v H1 F1 q1 e1 w1 r1 => ?_, ok.xok sl⟩
  cases r1
  cases d with
  | true => exact ⟨r, m1, Z, F1, Dd, w1, sl.mono e1.sm, by simpa using q1, ok.ext e1⟩
  | false => exact ⟨r, m1, Z, F1, Dd, w1, sl.mono e1.sm, by simpa using q1, ok.ext e1⟩
theorem s_pass : PS X (.Pass pos) (tLS X.K G fld W .pass) := PSimp ps_pass fun D σ H ⟨r, m, Z, F, Dd, w, sl, hq, ok⟩ => ok.nx r m σ H F hq (Ext.refl Z F) w sl
theorem s_brk : PS X (.Break pos) (tLS X.K G fld W .brk) := PSimp ps_break fun D σ H ⟨r, m, Z, F, Dd, w, sl, hq, ok⟩ => ok.bk r m σ H F hq (Ext.refl Z F) w sl
theorem s_cont : PS X (.Continue pos) (tLS X.K G fld W .cont) := PSimp ps_continue fun D σ H ⟨r, m, Z, F, Dd, w, sl, hq, ok⟩ => ok.ct r m σ H F hq (Ext.refl Z F) w sl
/-! loops -/
theorem s_for {tg iter : Expr} {body : List Stmt} {pp : Pat} {it : It} {mb : Sts} (hp : PassesOwn (model X.prog X.w) X.A X.env X.xe) (hc : X.calm = true) (hi : PI X tg iter (tLW X.K G fld W it)) (hg : PG X tg (gP X.K pp)) (hb : PSs X body (tLSs X.K G fld W mb))
    (hs : ∀ x, foldedSetIterable iter X.env x = pure x) : PS X (.For tg iter body [] pos) (tLS X.K G fld W (.fr pp it mb)) := by
  refine PSimp (ps_for hp hc hi hg hb hs) fun D σ H ⟨r, m, Z, F, Dd, w, sl, hq, ok⟩ => ?_
  simp only [rdS] at hq
  refine ⟨r, m, Z, F, _, _, w, sl, hq, fun src xs m1 H1 F1 J q1 e1 w1 iR hlen => ?_, ok.xok sl⟩
  refine ⟨fun i n σ' H' => ∃ r' m' F', n = xs.length - i ∧ i ≤ xs.length ∧ Ext Z F1 F' ∧ Wf X.K Z F' H' m' ∧ Slots X.K F' σ' r' ∧ forW pp src (fun D' => rdSs G mb D') Dd (xs.drop i) r' m', ⟨xs.length, r, m1, F1, by simp, Nat.zero_le _, Ext.refl Z F1, w1, sl.mono e1.sm, by simpa using q1⟩, ?_⟩
  rintro i n σ' H' ⟨r', m', F', rfl, hi', e', w', s', hW⟩
  by_cases hlt : i < xs.length
  · rw [List.drop_eq_getElem_cons hlt] at hW
    simp only [forW] at hW
    obtain ⟨hsrc, hW⟩ := hW
    obtain ⟨hgo, hyl⟩ := (iR Z m' H' F' e'.sm w' hsrc i).1 hlt
    refine .inr ⟨hgo, fun σ2 H2 => ∃ r2 m2 F2, Ext Z F1 F2 ∧ Wf X.K Z F2 H2 m2 ∧ Slots X.K F2 σ2 r2 ∧ forW pp src (fun D' => rdSs G mb D') Dd (xs.drop (i + 1)) r2 m2, fun σ2 H2 ⟨r2, m2, F2, y1, y2, y3, y4⟩ => ⟨xs.length - (i + 1), by omega, r2, m2, F2, rfl, hlt, y1, y2, y3, y4⟩, fun x H2 hy => ?_⟩
    obtain ⟨F2, d, e2, w2, hd, rd⟩ := hyl x H2 hy
    rw [List.getElem?_eq_getElem hlt] at hd
    cases hd
    refine pat_ok w2 pp hW rd (s'.mono e2.sm) fun σ2 r2 s2 _ h2 => ?_
    refine ⟨r2, m', Z, F2, _, w2, s2, h2, ?_⟩
    have e12 := e'.trans e2
    have okk := ok.ext (e1.trans e12)
    exact ⟨fun r3 m3 σ3 H3 F3 q e3 w3 s3 => ⟨r3, m3, F3, e12.trans e3, w3, s3, q⟩, okk.rt, okk.nx, fun r3 m3 σ3 H3 F3 q e3 w3 s3 => ⟨r3, m3, F3, e12.trans e3, w3, s3, q⟩, okk.ex⟩
  · have e0 : i = xs.length := by omega
    subst e0
    rw [List.drop_length] at hW
    simp only [forW] at hW
    exact .inl ⟨(iR Z m' H' F' e'.sm w' hW.1 xs.length).2 (Nat.le_refl _), ok.nx r' m' σ' H' F' hW.2 (e1.trans e') w' s'⟩
theorem s_whl {test : Expr} {body : List Stmt} {t : Ts} {mb : Sts} (hp : PassesOwn (model X.prog X.w) X.A X.env X.xe) (hc : PT X test (tLT X.K G fld W t)) (hb : PSs X body (tLSs X.K G fld W mb)) : PS X (.While test body [] pos) (tLS X.K G fld W (.whl t mb)) := by
  refine PSimp (ps_while hp hc hb) fun D σ H ⟨r, m, Z, F, Dd, w, sl, hq, ok⟩ => ?_
  simp only [rdS] at hq
  obtain ⟨n0, hq⟩ := hq
  refine ⟨fun n σ' H' => ∃ r' m' F', Ext Z F F' ∧ Wf X.K Z F' H' m' ∧ Slots X.K F' σ' r' ∧ whlW G t (fun D' => rdSs G mb D') Dd n r' m', ⟨n0, r, m, F, Ext.refl Z F, w, sl, hq⟩, ?_⟩
  rintro n σ' H' ⟨r', m', F', e', w', s', hW⟩
  cases n with
  | zero => exact hW.elim
  | succ n =>
    simp only [whlW] at hW
    refine ⟨r', m', Z, F', _, _, w', s', hW, fun d m1 v H1 F1 q1 e1 w1 r1 => ?_, (ok.ext e').xok s'⟩
    cases r1
    cases d with
    | true =>
      rw [if_pos rfl] at q1
      have e2 := e'.trans e1
      have okk := ok.ext e2
      refine ⟨fun σ2 H2 => ∃ r2 m2 F2, Ext Z F F2 ∧ Wf X.K Z F2 H2 m2 ∧ Slots X.K F2 σ2 r2 ∧ whlW G t (fun D' => rdSs G mb D') Dd n r2 m2, fun σ2 H2 y => ⟨n, Nat.lt_succ_self n, y⟩, r', m1, Z, F1, _, w1, s'.mono e1.sm, q1, ?_⟩
      exact ⟨fun r3 m3 σ3 H3 F3 q e3 w3 s3 => ⟨r3, m3, F3, e2.trans e3, w3, s3, q⟩, okk.rt, okk.nx, fun r3 m3 σ3 H3 F3 q e3 w3 s3 => ⟨r3, m3, F3, e2.trans e3, w3, s3, q⟩, okk.ex⟩
    | false =>
      rw [if_neg (by decide)] at q1
      exact ok.nx r' m1 σ' H1 F1 q1 (e'.trans e1) w1 (s'.mono e1.sm)
/-! stores -/
theorem setD_ok {K : PySem.W.Frag} {Z F H : Hp} {m : Mu} {o i v : V} {x y z : DV} {k : Mu → Prop} {Q : Hp → Prop} (w : Wf K Z F H m) (ro : RelD K F o x) (ri : RelD K F i y) (rv : RelD K F v z) (h : setD x y z m k)
    (q : ∀ m' H', k m' → Wf K Z F H' m' → Q H') : rSetL o i v H Q := by
  unfold setD at h
  split at h
  · rename_i a j
    obtain ⟨xs, jj, hx, hi, hk⟩ := h
    cases ro
    cases ri
    obtain ⟨hf, hz, vs, h1, h2, h3⟩ := w.ob _ _ hx
    refine ⟨_, vs, _, jj, rfl, rfl, h1, by rw [h2.length]; exact hi, q _ _ hk (w.set hx ⟨vs.set jj v, upd_same, h2.set rv jj, ?_⟩)⟩
    rw [List.length_set]; exact h3
  · exact h.elim
theorem s_subset {o i : Expr} {mo mi : Ex} {sp : Pos} (h : PS X (.Assign [.Subscript o i sp] a pos) (tAsg (tL X.K G fld W ma) (gSub (tL X.K G fld W mo) (tL X.K G fld W mi) rSetL))) : PS X (.Assign [.Subscript o i sp] a pos) (tLS X.K G fld W (.sub mo mi ma)) := by
  refine PSimp h fun D σ H ⟨r, m, Z, F, Dd, w, sl, hq, ok⟩ => ?_
  simp only [rdS] at hq
  refine ⟨r, m, Z, F, _, _, w, sl, hq, fun d m1 v H1 F1 q1 e1 w1 r1 => ?_, ok.xok sl⟩
  refine ⟨r, m1, Z, F1, _, _, w1, sl.mono e1.sm, q1, fun d2 m2 v2 H2 F2 q2 e2 w2 r2 => ?_, (ok.ext e1).xok (sl.mono e1.sm)⟩
  refine ⟨r, m2, Z, F2, _, _, w2, sl.mono (e1.trans e2).sm, q2, fun d3 m3 v3 H3 F3 q3 e3 w3 r3 => ?_, (ok.ext (e1.trans e2)).xok (sl.mono (e1.trans e2).sm)⟩
  exact setD_ok w3 (r2.mono e3.sm) r3 (r1.mono (e2.trans e3).sm) q3 fun m' H' hk w' => ok.nx r m' σ H' F3 hk (e1.trans (e2.trans e3)) w' (sl.mono (e1.trans (e2.trans e3)).sm)
theorem s_par {i j : Nat} {ta : TA} {st : Stmt} (h : PS X st (fun D σ H => tCons (tL X.K G fld W ma) (tCons (tL X.K G fld W mb) tNil) σ H fun vs H1 => ∃ v u, vs = [v, u] ∧ D.nx ((σ.set i (some v)).set j (some u)) H1)) : PS X st (tLS X.K G fld W (.par i j ma mb)) := by
  refine PSimp h fun D σ H ⟨r, m, Z, F, Dd, w, sl, hq, ok⟩ => ?_
  simp only [rdS] at hq
  refine ⟨r, m, Z, F, _, _, w, sl, hq, fun d m1 v H1 F1 q1 e1 w1 r1 => ?_, ok.xok sl⟩
  refine ⟨r, m1, Z, F1, _, _, w1, sl.mono e1.sm, q1, fun d2 m2 v2 H2 F2 q2 e2 w2 r2 => ?_, (ok.ext e1).xok (sl.mono e1.sm)⟩
  exact ⟨_, _, rfl, ok.nx _ m2 _ H2 F2 q2.2 (e1.trans e2) w2 (((sl.mono (e1.trans e2).sm).set i (r1.mono e2.sm)).set j r2)⟩
end
end DL

set_option Elab.async false
set_option linter.all false
set_option maxRecDepth 100000
set_option maxHeartbeats 2000000
namespace DL
open PySem L2 PySem.Spec PyProof.Rows
section
variable {X : Cx} {G : Nat → Option Fn} {fld : Nat → Addr × PySem.Str} {W : WX} {a : Expr} {ma : Ex} {pos : Pos}
theorem adj_rev (n : Nat) : Builtin.Slice.sliceAdjust none none (-1) (n : Int) = ((n : Int) - 1, -1) := by
  unfold Builtin.Slice.sliceAdjust
  simp
theorem places_rev (n : Nat) : Builtin.Slice.slicePlaces ((n : Int) - 1) (-1) (-1) = n := by
  unfold Builtin.Slice.slicePlaces
  simp
  omega
theorem pick_rev (xs : Array Value) : ((List.range xs.size).filterMap fun (j : Nat) => xs[(((xs.size : Int) - 1) + (j : Int) * (-1)).toNat]?).toArray = xs.toList.reverse.toArray := by
  have e : ((List.range xs.size).filterMap fun (j : Nat) => xs[(((xs.size : Int) - 1) + (j : Int) * (-1)).toNat]?) = ((List.range xs.size).map fun k => xs.size - 1 - k).filterMap (xs[·]?) := by
    have go : ∀ l : List Nat, (∀ j ∈ l, j < xs.size) → (l.filterMap fun (j : Nat) => xs[(((xs.size : Int) - 1) + (j : Int) * (-1)).toNat]?) = (l.map fun k => xs.size - 1 - k).filterMap (xs[·]?) := by
      intro l
      induction l with
      | nil => intro _; rfl
      | cons j l ih =>
        intro h
        have hj := h j List.mem_cons_self
        have e : (((xs.size : Int) - 1) + (j : Int) * (-1)).toNat = xs.size - 1 - j := by omega
        rw [List.map_cons, List.filterMap_cons, List.filterMap_cons, e, ih fun k hk => h k (List.mem_cons_of_mem _ hk)]
    exact go _ fun j hj => List.mem_range.mp hj
  rw [e, PySem.W.krv_range, List.filterMap_reverse, PySem.W.krv_all]
section
variable {pg : Program} {wd : World} {A : Around} {E : Value → Shared → Prop} {s : Shared}
/-- t[::-1] of a tuple -/
theorem getTupRev {t sl : Addr} {items : Array Value} {vl vu vs : Value} {Q : Value → Shared → Prop} (ht : IsTup s.heap t items) (hs : s.heap.IsSliceOf sl vl vu vs) (pl : IsPart vl none) (pu : IsPart vu none) (ps : IsPart vs (some (-1)))
    (h : Q (.ref s.heap.objs.size) { s with heap := s.heap.push { cls := .type "tuple", data := .seq items.toList.reverse.toArray } }) (hz : items.size ≤ sizeLine) : wpAny (model pg wd) A (getItem (.ref t) (.ref sl)) Q E s := by
  have fits : sizeOk (.seq items.toList.reverse.toArray) := by
    show items.toList.reverse.toArray.size ≤ sizeLine
    rw [List.size_toArray, List.length_reverse, Array.length_toList]
    exact hz
  obtain ⟨ob, g1, g2, g3⟩ := id hs
  have ty : s.TypeIs (.ref sl) "slice" := ⟨ob, g1, g2⟩
  unfold getItem
  try with_reducible refine wpAny_holding ?_
  first | refine wpAny_bind (wpAny_pure ?_) | skip
  refine wpAny_bind (wpAny_sequenceKey ht.typeIs (by decide) ?_)
  refine wpAny_bind (wpAny_callSpecial?_slot (name := Str.ofString "__getitem__") ht.typeIs PyProof.Rows.slot_tuple_getitem (wpAny_call_entry PyProof.Rows.slot_tuple_getitem ht.typeIs entry_tuple_getitem ?_ (args_tuple_getitem _ _)))
  show wpAny _ _ (Builtin.Tuple.tupleItemsOf (.ref t) >>= _) _ _ s
  refine wpAny_bind (tupleItemsOf_ ht (wpAny_bind (wpAny_typeOf ty ?_)))
  rw [if_pos (by decide)]
  have app : ∀ {R : Int × Int × Nat → Shared → Prop} {E' : Value → Shared → Prop} {A' : Around}, R ((items.size : Int) - 1, -1, items.size) s → wpAny (model pg wd) A' (Builtin.Slice.sliceApplied (.ref sl) (pure (items.size : Int))) R E' s := fun {R E' A'} hr => by
    unfold Builtin.Slice.sliceApplied Builtin.Slice.sliceFields
    refine wpAny_bind (wpAny_bind (wpAny_field g1 g3 (x := vl) rfl (wpAny_bind (wpAny_field g1 g3 (x := vu) rfl (wpAny_bind (wpAny_field g1 g3 (x := vs) rfl (wpAny_pure ?_)))))))
    refine wpAny_bind (HT.slicePart_ ps ?_)
    show wpAny _ _ (if ((-1 : Int) == 0) = true then _ else _) _ _ s
    rw [if_neg (by decide)]
    refine wpAny_bind (HT.slicePart_ pl (wpAny_bind (HT.slicePart_ pu (wpAny_bind (wpAny_pure ?_)))))
    show wpAny _ _ (match Builtin.Slice.sliceAdjust none none (-1) (items.size : Int) with | (lo, hi) => pure (lo, (-1 : Int), Builtin.Slice.slicePlaces lo hi (-1))) _ _ s
    rw [adj_rev]
    show wpAny _ _ (pure ((items.size : Int) - 1, (-1 : Int), Builtin.Slice.slicePlaces ((items.size : Int) - 1) (-1) (-1))) _ _ s
    rw [places_rev]
    exact wpAny_pure hr
  refine wpAny_bind (app ?_)
  show wpAny _ _ (if (((items.size : Int) - 1 == 0) && ((-1 : Int) == 1) && (items.size == items.size)) = true then _ else _) _ _ s
  rw [if_neg (by simp), pick_rev]
  first
    | exact wpAny_bind (m := Builtin.Tuple.tupleExact _) (wpAny_newObj_type (wpAny_pure ⟨_, rfl, wpAny_pure h⟩) fits)
    | exact wpAny_bind (m := Builtin.Tuple.tupleExact _) (wpAny_newObj_type (wpAny_bind (wpAny_pure (wpAny_pure ⟨_, rfl, wpAny_pure h⟩))) fits)
    | exact wpAny_bind (wpAny_bind (m := Builtin.Tuple.tupleExact _) (wpAny_newObj_type (wpAny_pure (wpAny_pure ⟨_, rfl, wpAny_pure h⟩)) fits))
    | exact wpAny_bind (wpAny_bind (m := Builtin.Tuple.tupleExact _) (wpAny_newObj_type (wpAny_pure ⟨_, rfl, wpAny_pure h⟩) fits))
end
def tRev (K : PySem.W.Frag) (te : TE) : TE := fun σ H Q => te σ H fun x H1 => (∃ a xs, x = .ref a ∧ SqL K H1 a xs ∧ ∀ p, H1 p = none → Q (.ref p) (upd H1 p (.lst xs.reverse))) ∨ (∃ z : PySem.Str, x = .str z ∧ z.length ≤ sizeLine ∧ Q (.str ⟨z.cps.toList.reverse.toArray⟩) H1) ∨ (∃ a xs, x = .ref a ∧ SqT K H1 a xs ∧ ∀ p, H1 p = none → Q (.ref p) (upd H1 p (.tup xs.reverse)))
theorem pe_rev {e : Expr} {te : TE} {k : Nat} {p1 p2 p3 pos : Pos} (he : PE X e te) : PE X (.Subscript e (.Slice none none (some (.UnaryOp .USub (.Constant (.int 1) k p1) p2)) p3) pos) (tRev X.K te) := by
  refine ⟨fun pins s σ H Q I h => ?_⟩
  refine Subscript_ (thn (he.run pins s σ H _ I h) fun v s1 ⟨x, H1, I1, r1, q1⟩ => ?_)
  have hst : PO X (some (.UnaryOp .USub (.Constant (.int 1) k p1) p2)) (tPart (tUn (rU fun i => .int (-i)) (tC (.int 1)))) := po_some (pe_un un_neg pe_int)
  refine wpAny_Slice (thn (po_none.run pins s1 σ H1 (fun o H2 => o = none ∧ H2 = H1) I1 ⟨rfl, rfl⟩) fun vl s2 ⟨l, H2, I2, pl, el, e2⟩ => ?_)
  subst el e2
  refine thn (po_none.run pins s2 σ H2 (fun o H3 => o = none ∧ H3 = H2) I2 ⟨rfl, rfl⟩) fun vu s3 ⟨u, H3, I3, pu, eu, e3⟩ => ?_
  subst eu e3
  refine thn (hst.run pins s3 σ H3 (fun o H4 => o = some (-1) ∧ H4 = H3) I3 ⟨1, rfl, -1, rfl, rfl, rfl⟩) fun vs s4 ⟨o, H4, I4, ps, eo, e4⟩ => ?_
  subst eo e4
  have I5 : Inv X pins σ H4 { s4 with heap := s4.heap.push { cls := .type "slice", data := .fields #[vl, vu, vs] } } := I4.kept (t' := s4.toks) fun b ob q => Heap.get?_push_of_some _ q
  rcases q1 with ⟨a, xs, ex, hx, q⟩ | ⟨z, ex, hz, q⟩ | ⟨a, xs, ex, hx, q⟩
  · subst ex
    cases r1
    obtain ⟨its, r, ht, hz⟩ := I5.list hx
    have hlen := r.length
    refine tail_any (ops := [.ref a, .ref s4.heap.objs.size]) ht.isList.typeIs (PySem.slot_list_getitem.lookup) ?_ (by with_unfolding_all rfl)
    refine wpAny_getItem_list_slice ht.isList (Heap.IsSliceOf.new _ vl vu vs) pl pu ps (by decide) ?_ (by rw [List.size_toArray]; omega)
    rw [PySem.W.krv_pick]
    refine ⟨.ref _, _, I5.laid (t' := s4.toks) (o := .lst xs.reverse) (fun b ob q => Heap.get?_push_of_some _ q) (Nat.le_refl _) ?_, rfl, q _ (I5.hok.fresh (Nat.le_refl _))⟩
    exact ⟨by rw [List.length_reverse]; exact hz, _, 0, r.reverse, Heap.get?_push_size _ rfl⟩
  · subst ex
    obtain ⟨t, rfl⟩ := r1
    obtain ⟨lr, rfl, el⟩ := IsPart.raw pl
    obtain ⟨ur, rfl, eu⟩ := IsPart.raw pu
    obtain ⟨sr, rfl, es⟩ := IsPart.raw ps
    refine tail_any (ops := [.str z t, .ref s4.heap.objs.size]) (typeIs_str _ _ _) (F.slot_str_getitem.lookup) ?_ (by with_unfolding_all rfl)
    have h0 : ((sr.map (·.1)).getD 1 == 0) = false := by rw [es]; rfl
    refine wpAny_getItem_str_slice (l := lr) (u := ur) (st := sr) ⟨_, Heap.get?_push_size _ rfl, rfl, rfl⟩ h0 ?_
    have hp : slicePicked z lr ur sr = (List.range z.length).map fun k => z.length - 1 - k := by
      unfold slicePicked
      rw [el, eu, es]
      exact PySem.W.krv_sliceRange z.length
    have hf : ((slicePicked z lr ur sr).filterMap (z.cps[·]?)) = z.cps.toList.reverse := by
      rw [hp, PySem.W.krv_range, List.filterMap_reverse]
      rw [show z.length = z.cps.size from rfl, PySem.W.krv_all]
    have hm : sliceMade z t lr ur sr = .str ⟨z.cps.toList.reverse.toArray⟩ := by
      unfold sliceMade
      rw [hf]
      have : ((sr.map (·.1)).getD 1 == 1) = false := by rw [es]; rfl
      rw [this]
      rfl
    rw [hm]
    refine ⟨?_, .str _, H4, I5.tok _, ⟨_, rfl⟩, q⟩
    show (z.cps.toList.reverse.toArray).size ≤ sizeLine
    rw [List.size_toArray, List.length_reverse]
    exact hz
  · subst ex
    cases r1
    obtain ⟨its, r, ht, hz⟩ := I5.tuple hx
    have hlen := r.length
    refine tail_any (ops := [.ref a, .ref s4.heap.objs.size]) ht.typeIs (PyProof.Rows.slot_tuple_getitem.lookup) ?_ (by with_unfolding_all rfl)
    refine getTupRev ht (Heap.IsSliceOf.new _ vl vu vs) pl pu ps ?_ (by rw [List.size_toArray]; omega)
    refine ⟨.ref _, _, I5.laid (t' := s4.toks) (o := .tup xs.reverse) (fun b ob q => Heap.get?_push_of_some _ q) (Nat.le_refl _) ?_, rfl, q _ (I5.hok.fresh (Nat.le_refl _))⟩
    exact ⟨by rw [List.length_reverse]; exact hz, _, r.reverse, IsTup.new _ _⟩
theorem s_rev {k : Nat} {p1 p2 p3 : Pos} (ha : PE X a (tL X.K G fld W ma)) : PE X (.Subscript a (.Slice none none (some (.UnaryOp .USub (.Constant (.int 1) k p1) p2)) p3) pos) (tL X.K G fld W (.rev ma)) := by
  refine PEimp (pe_rev ha) fun σ H Q ⟨r, m, Z, F, Qd, Ed, w, sl, hq, post, xp⟩ => ?_
  simp only [rdE] at hq
  refine ⟨r, m, Z, F, _, Ed, w, sl, hq, fun d1 m1 v1 H1 F1 q1 e1 w1 r1 => ?_, xp⟩
  unfold revD at q1
  split at q1
  · rename_i xs e
    obtain ⟨p, vs, rfl, hp, rs, hl⟩ := w1.lst r1 e
    refine .inl ⟨p, vs, rfl, SqL.of hp, fun q hq => ?_⟩
    obtain ⟨w', e'⟩ := w1.new hq (.lst vs.reverse)
    exact post _ m1 _ _ _ q1 (e1.trans e') w' (.lst upd_same (rs.reverse.mono e'.sm) (by rw [List.length_reverse]; exact hl))
  · rename_i xs e
    obtain ⟨p, vs, rfl, _, hp, rs, hl⟩ := w1.tup r1 e
    refine .inr (.inr ⟨p, vs, rfl, SqT.of hp, fun q hq => ?_⟩)
    obtain ⟨w', e'⟩ := w1.new hq (.tup vs.reverse)
    exact post _ m1 _ _ _ q1 (e1.trans e') w' (.tup upd_same (rs.reverse.mono e'.sm) (by rw [List.length_reverse]; exact hl))
  · rename_i xs e
    obtain ⟨z, rfl, ez, cz⟩ := Wf.str r1 e
    refine .inr (.inl ⟨z, rfl, by rw [lenS, ez, ← LINE_eq]; exact q1.1, post _ m1 _ _ _ q1.2 e1 w1 ?_⟩)
    have h := RelD.str (K := X.K) (F := F1) ⟨z.cps.toList.reverse.toArray⟩ (fun c hc => by
      have : c ∈ z.cps.toList := by simpa using hc
      rw [ez] at this
      exact cz c this)
    rw [← ez]
    simpa using h
  · exact q1.elim
end
end DL

set_option Elab.async false
set_option linter.all false
set_option maxRecDepth 100000
set_option maxHeartbeats 2000000
/-! DLO: objects of own classes: fields, properties, methods, new ones -/
namespace DL
open PySem L2
section
variable {K : PySem.W.Frag} {Z F H : Hp} {m : Mu} {p : Addr}
theorem Wf.m_none (w : Wf K Z F H m) (hp : H p = none) : m p = none := by
  cases e : m p with
  | none => rfl
  | some o =>
    obtain ⟨_, _, a3⟩ := w.ob p o e
    obtain ⟨x, hx⟩ := a3.some
    rw [hp] at hx
    cases hx
/-- something new beside -/
theorem Wf.beside (w : Wf K Z F H m) (hp : H p = none) (o : HO) : Wf K Z F (upd H p o) m := by
  have hf : F p = none := sub_none w.sf hp
  have hz : Z p = none := sub_none w.sz hp
  refine ⟨fun b u e => ?_, fun b u e => ?_, fun q u e => ?_⟩
  · rw [upd_ne (ne_of_none e hf)]; exact w.sf b u e
  · rw [upd_ne (ne_of_none e hz)]; exact w.sz b u e
  · obtain ⟨a1, a2, a3⟩ := w.ob q u e
    obtain ⟨x, hx⟩ := a3.some
    have hq : q ≠ p := ne_of_none hx hp
    exact ⟨a1, a2, a3.mono (fun _ _ h => h) fun u hu => by rw [upd_ne hq]; exact hu⟩
end
section
variable {K : PySem.W.Frag} {Z F H : Hp} {m : Mu}
theorem str_inj {a b : PySem.Str} (h : a.cps.toList = b.cps.toList) : a = b := by
  cases a; cases b
  congr 1
  exact Array.toList_inj.mp h
theorem RelFs.lookup : ∀ {xs : List (PySem.Str × V)} {ds : List (S × DV)} {f : PySem.Str} {d : DV}, RelFs K F xs ds → ds.lookup f.cps.toList = some d → ∃ v, xs.lookup f = some v ∧ RelD K F v d
  | _, _, _, _, .nil, h => by cases h
  | _, _, f, d, .cons (k := k) (v := v) r t, h => by
    by_cases e : f = k
    · subst e
      simp only [List.lookup_cons, beq_self_eq_true] at h
      cases h
      exact ⟨v, by simp only [List.lookup_cons, beq_self_eq_true], r⟩
    · have e2 : (f.cps.toList == k.cps.toList) = false := beq_eq_false_iff_ne.mpr fun z => e (str_inj z)
      have e3 : (f == k) = false := beq_eq_false_iff_ne.mpr e
      simp only [List.lookup_cons, e2] at h
      simp only [List.lookup_cons, e3]
      exact RelFs.lookup t h
theorem RelFs.lookupN : ∀ {xs : List (PySem.Str × V)} {ds : List (S × DV)} {f : PySem.Str}, RelFs K F xs ds → ds.lookup f.cps.toList = none → xs.lookup f = none
  | _, _, _, .nil, h => rfl
  | _, _, f, .cons (k := k) (v := v) r t, h => by
    by_cases e : f = k
    · subst e
      simp only [List.lookup_cons, beq_self_eq_true] at h
      cases h
    · have e2 : (f.cps.toList == k.cps.toList) = false := beq_eq_false_iff_ne.mpr fun z => e (str_inj z)
      have e3 : (f == k) = false := beq_eq_false_iff_ne.mpr e
      simp only [List.lookup_cons, e2] at h
      simp only [List.lookup_cons, e3]
      exact RelFs.lookupN t h
theorem RelFs.put {f : PySem.Str} {v : V} {d : DV} (rv : RelD K F v d) : ∀ {xs : List (PySem.Str × V)} {ds : List (S × DV)}, RelFs K F xs ds → RelFs K F (L2.putF f v xs) (DL.putF f.cps.toList d ds)
  | _, _, .nil => .cons rv .nil
  | _, _, .cons (k := k) r t => by
    by_cases e : k = f
    · subst e
      simp only [L2.putF, DL.putF, if_true]
      exact .cons rv t
    · have e2 : ¬ k.cps.toList = f.cps.toList := fun z => e (str_inj z)
      simp only [L2.putF, DL.putF, if_neg e, if_neg e2]
      exact .cons r (RelFs.put rv t)
theorem RelFs.length : ∀ {xs : List (PySem.Str × V)} {ds : List (S × DV)}, RelFs K F xs ds → xs.length = ds.length
  | _, _, .nil => rfl
  | _, _, .cons _ t => by rw [List.length_cons, List.length_cons, RelFs.length t]
theorem Wf.ins (w : Wf K Z F H m) {v : V} {d : DV} (r : RelD K F v d) {c : Nat} {fs : List (S × DV)} (h : look m d = .ins c fs) : ∃ a dx xs, v = .ref a ∧ H a = some (.ins (cad K c) dx xs) ∧ RelFs K F xs fs := by
  cases r with
  | ins hf rs =>
    cases h
    exact ⟨_, _, _, rfl, w.sf _ _ hf, rs⟩
  | loc a =>
    unfold look at h
    simp only at h
    split at h <;> try cases h
    rename_i e
    obtain ⟨_, _, dx, vs, h1, h2⟩ := w.ob _ _ e
    exact ⟨_, dx, vs, rfl, h1, h2⟩
  | _ => cases h
end
section
variable {X : Cx} {G : Nat → Option Fn} {fld : Nat → Addr × PySem.Str} {W : WX} {a b c : Expr} {ma mb mc : Ex} {pos p apos : Pos} {k : Nat}
theorem s_att {i cc : Nat} {nm : PySem.Str} (hc : Cls X.K (cad X.K cc)) (hn : NoAttr X.K (cad X.K cc) nm) (ha : PE X a (tL X.K G fld W ma)) (hb : attributeBase a nm X.env (eval a X.env) = eval a X.env) :
    PE X (.Attribute a nm pos) (tL X.K G fld W (.op (.att i cc nm.cps.toList) (.cons ma .nil))) := by
  refine PEimp (pe_fld ha hb) fun σ H Q ⟨r, m, Z, F, Qd, Ed, w, sl, hq, post, xp⟩ => ?_
  simp only [rdE, rdA] at hq
  refine ⟨r, m, Z, F, _, Ed, w, sl, hq, fun d1 m1 v1 H1 F1 q1 e1 w1 r1 => ?_, xp⟩
  obtain ⟨x, ex, q1⟩ := q1
  cases ex
  unfold attD at q1
  split at q1
  · rename_i c' fs e
    obtain ⟨rfl, d, hd, hk⟩ := q1
    obtain ⟨ad, dx, xs, rfl, hp, rs⟩ := w1.ins r1 e
    obtain ⟨v, hv, rv⟩ := rs.lookup hd
    exact ⟨ad, _, dx, xs, v, rfl, hp, hc, hn, hv, post d m1 v H1 F1 hk e1 w1 rv⟩
  · exact q1.elim
theorem s_prp {i cc : Nat} {nm : PySem.Str} {g : Fn} {pp gg : Addr} {fd : FuncData} {q : PySem.Str} {j : Nat} (hG : G (MT + i) = some g) (hc : Cls X.K (cad X.K cc)) (hp : PropOf X.K (cad X.K cc) nm pp gg) (F : FnOk X.prog X.w X.K X.mg X.base (L2.CX X.prog X.w) j gg fd [q] (spOf X.K fld g)) (hr : Room (j + 1) X.A) (hbi : Binds X.K fd [q] [])
    (ha : PE X a (tL X.K G fld W ma)) (hb : attributeBase a nm X.env (eval a X.env) = eval a X.env) : PE X (.Attribute a nm pos) (tL X.K G fld W (.op (.prp i cc) (.cons ma .nil))) := by
  refine PEimp (pe_prop (dvs := []) (E := E0) ha hc hp F hr hbi .nil (passL (X := X.nox)) hb) fun σ H Q ⟨r, m, Z, F, Qd, Ed, w, sl, hq, post, xp⟩ => ?_
  simp only [rdE, rdA] at hq
  refine ⟨r, m, Z, F, _, Ed, w, sl, hq, fun d1 m1 v1 H1 F1 q1 e1 w1 r1 => ?_, xp⟩
  obtain ⟨x, ex, hi, q1⟩ := q1
  cases ex
  cases e : look m1 d1 with
  | ins c' fs =>
    rw [e] at hi
    have ec : c' = cc := by simpa [isIns] using hi
    subst ec
    obtain ⟨ad, dx, xs, rfl, hp, rs⟩ := w1.ins r1 e
    refine ⟨ad, dx, xs, rfl, hp, ?_⟩
    exact call_sp (W := fun _ _ _ _ => False) (σ := σ) hG w1 (.cons r1 .nil) q1 (fun d m' v H' F' hk e' w' r' => post d m' v H' F' hk (e1.trans e') w' r') (fun x m' H' F' cls dd hk _ _ _ => hk.elim)
  | _ => rw [e] at hi; cases hi
theorem noFld_inv {cc : Nat} {nm : S} {x : DV} (h : noFld cc nm x = true) : ∃ fs, x = .ins cc fs ∧ fs.lookup nm = none := by
  cases x <;> first | (cases h; done) | skip
  rename_i c' fs
  simp only [noFld, Bool.and_eq_true, beq_iff_eq, Option.isNone_iff_eq_none] at h
  exact ⟨fs, by rw [h.1], h.2⟩
theorem s_mth {i cc : Nat} {nm : PySem.Str} {g : Fn} {f : Addr} {fd : FuncData} {ps : List PySem.Str} {o : Expr} {mo : Ex} {es : List Expr} {ms : Exs} {pl : Sem Bool} (hG : G (MT + i) = some g) (hc : Cls X.K (cad X.K cc)) (hm : Meth X.K (cad X.K cc) nm f) (F : FnOk X.prog X.w X.K X.mg X.base (L2.CX X.prog X.w) k f fd ps (spOf X.K fld g)) (hr : Room k X.A) (hbi : Binds X.K fd ps []) (tk : Takes X W)
    (ho : PE X o (tL X.K G fld W mo)) (ha : PA X es (tLA X.K G fld W ms)) (hnil : es = [] → ms = .nil) (hst : ∀ e t, es = e :: t → starEach (e :: t) X.env = (false, eval e X.env) :: starEach t X.env ∧ (backTo pos (starEach t X.env)).any (·.1) = false)
    (ht : eval (.Call (.Attribute o nm apos) es [] pos) X.env = (do
      let ov ← eval o X.env
      standAt apos.atName
      let (f, first) ← holding [ov] (getMethod ov nm pl)
      callWith pos f first (backTo pos (starEach es X.env)) (backToKw pos (keywordEach [] X.env)))) :
    PE X (.Call (.Attribute o nm apos) es [] pos) (tL X.K G fld W (.mth i cc nm.cps.toList mo ms)) := by
  refine ⟨fun pins s σ H Q I h => ?_⟩
  obtain ⟨r, m, Z, F', Qd, Ed, w, sl, hq, post, xp⟩ := h
  simp only [rdE] at hq
  have h1 : tL X.K G fld W mo σ H (fun x H1 => ∃ a dx xs, x = .ref a ∧ H1 a = some (.ins (cad X.K cc) dx xs) ∧ xs.lookup nm = none ∧ tLA X.K G fld W ms σ H1 fun vs H2 => spOf X.K fld g (x :: vs) H2 Q (WE W σ)) := by
    refine ⟨r, m, Z, F', _, Ed, w, sl, hq, fun d1 m1 v1 H1 F1 q1 e1 w1 r1 => ?_, xp⟩
    obtain ⟨hn, q1⟩ := q1
    obtain ⟨fs, e0, hl⟩ := noFld_inv hn
    obtain ⟨ad, dx, xs, rfl, hp, rs⟩ := w1.ins r1 e0
    refine ⟨ad, dx, xs, rfl, hp, rs.lookupN hl, ?_⟩
    refine ⟨r, m1, Z, F1, _, Ed, w1, sl.mono e1.sm, q1, fun d2 m2 v2 H2 F2 q2 e2 w2 r2 => ?_, xp.ext e1⟩
    exact call_sp hG w2 (.cons (r1.mono e2.sm) r2) q2 (fun d m' v H' F' hk e' w' r' => post d m' v H' F' hk (e1.trans (e2.trans e')) w' r') (xp.ext (e1.trans e2))
  refine PySem.W.methodCall_KW (pl := pl) (thn (ho.run pins s σ H _ I h1) fun u s1 ⟨x, H1, I1, rx, ad, dx, xs, ex, ea, l, q⟩ => ?_) ht
  subst ex
  obtain rfl : u = Value.ref ad := rx
  refine getmeth_ok I1 ea hc hm l ?_
  cases es with
  | nil =>
    refine PySem.W.callWith_K0 (first := [.ref ad]) I1.kIn hm.kp ?_
    -- no arguments: they are read at once
    have q2 : spOf X.K fld g [.ref ad] H1 Q (WE W σ) := by
      rw [hnil rfl] at q
      obtain ⟨r, m, Z, F', Qd, Ed, w, sl, hq, post, xp⟩ := q
      simp only [rdA] at hq
      exact post [] m [] H1 F' hq (Ext.refl Z F') w .nil
    exact run_fnS (us := [.ref ad]) (vs := [.ref ad]) F hr hbi (passAt tk σ) I1 (.cons rfl .nil) q2
  | cons e t =>
    obtain ⟨h2, h3⟩ := hst e t rfl
    refine PySem.W.callWith_K (first := [.ref ad]) (h₀ := X.base) I.ok.mod.kin hm.kp (thn (ha.run pos pins s1 σ H1 _ I1 q) fun us s2 ⟨vs, H2, I2, rr, q2⟩ => ⟨I2.kIn, ?_⟩) h2 h3
    exact run_fnS (us := .ref ad :: us) (vs := .ref ad :: vs) F hr hbi (passAt tk σ) I2 (.cons rfl rr) q2
/-- the class called: its __init__ runs at a new object -/
theorem run_new {C fI : Addr} {fd : FuncData} {ps : List PySem.Str} {sp : Sp} {E : XK} {pins : List (Addr × Obj)} {σ : L2.St} {H : Hp} {s : Shared} {Q : VK} {us : List Value} {vs : List V} {j : Nat} (M : Mk X.K C fI) (F : FnOk X.prog X.w X.K X.mg X.base (L2.CX X.prog X.w) j fI fd ps sp) (hr : Room (j + 1) X.A) (hb : Binds X.K fd ps [])
    (pa : PassesAt (L2.CX X.prog X.w) X σ E) (I : Inv X pins σ H s) (rv : Vals vs us)
    (h : ∀ x dx, H x = none → H dx = none → dx ≠ x → sp (.ref x :: vs) (upd (upd H dx (.own x)) x (.ins C dx [])) (fun v H2 => v = .non ∧ Q (.ref x) H2) E) : wpAny (model X.prog X.w) X.A (call (.ref C) us) (EP X pins σ Q) X.xe s := by
  obtain ⟨n, hn⟩ : ∃ n, n = s.heap.objs.size := ⟨_, rfl⟩
  have want := h (n + 1) n (I.hok.fresh (by rw [hn]; exact Nat.le_succ _)) (I.hok.fresh (by rw [hn]; exact Nat.le_refl _)) (Nat.ne_of_lt (Nat.lt_succ_self n))
  have J := Inv.made (C := C) I
  rw [← hn] at J
  have rr : Vals (V.ref (n + 1) :: vs) (Value.ref (n + 1) :: us) := .cons rfl rv
  have len : (Value.ref (n + 1) :: us ++ []).length = ps.length := by
    rw [List.append_nil, ← rr.length]
    exact F.len _ _ _ _ want
  have bnd := hb _ (Value.ref (n + 1) :: us) J.kIn len
  rw [List.append_nil] at bnd
  subst hn
  refine wpAny_call (make_map (f := fI) I.kIn M.makes M.init (beq_iff_eq.mp M.fn) (codeAny_mono (F.run _ X.stack _ _ ⟨_, []⟩ _ _ _ E (hr.make C us []) (J.env0.make C us []) bnd rr want) fun res s' got => ?_))
  cases res with
  | error er => exact pa pins _ _ er s' J got
  | ok fl =>
    cases fl with
    | ret u =>
      obtain ⟨v, H', K', rv, ev, q3⟩ := J.after got
      subst ev
      exact ⟨rv, V.ref _, H', K', rfl, q3⟩
    | next => exact got.elim
    | brk => exact got.elim
    | cont => exact got.elim
/-- what a new object's making asks -/
theorem made_sp {i cc : Nat} {s s' : FSp} {Z F H : Hp} {m : Mu} {vs : List V} {ds : List DV} {Qd : Post} {Ed : XPost} {Q : VK} {σ : L2.St} (hG : G (MT + i) = some (.gen s'))
    (imp : ∀ ds m kk e, s' ds m kk e → ∀ a, m a = none → s (.loc a :: ds) (m.put a (.ins cc [])) (fun d m' => d = .non ∧ kk (.loc a) m') e) (w : Wf X.K Z F H m) (rs : RelDs X.K F vs ds) (q : callD G (MT + i) ds m Qd Ed)
    (post : ∀ d m' v H' F', Qd d m' → Ext Z F F' → Wf X.K Z F' H' m' → RelD X.K F' v d → Q v H') (xp : XOk X.K fld W Z F σ Ed) :
    ∀ x dx, H x = none → H dx = none → dx ≠ x → spG X.K fld s (.ref x :: vs) (upd (upd H dx (.own x)) x (.ins (cad X.K cc) dx [])) (fun v H2 => v = .non ∧ Q (.ref x) H2) (WE W σ) := by
  intro x dx hx hdx hne
  unfold callD at q
  rw [hG] at q
  have q : s' ds m Qd Ed := q
  have w1 := w.beside hdx (.own x)
  have hx1 : upd H dx (.own x) x = none := by rw [upd_ne (fun z => hne z.symm)]; exact hx
  obtain ⟨w2, hm⟩ := w1.own hx1 (o := .ins (cad X.K cc) dx []) (u := .ins cc []) ⟨dx, [], upd_same, .nil⟩
  refine ⟨.loc x :: ds, m.put x (.ins cc []), Z, F, _, Ed, w2, .cons (.loc x) rs, imp ds m Qd Ed q x hm, ?_, xp⟩
  rintro d m' v H' F' ⟨rfl, hk⟩ e' w' r'
  cases r'
  exact ⟨rfl, post _ m' _ H' F' hk e' w' (.loc x)⟩
theorem s_mk {i cc : Nat} {x : PySem.Str} {s s' : FSp} {fI : Addr} {fd : FuncData} {ps : List PySem.Str} {j : Nat} {es : List Expr} {ms : Exs} (hG : G (MT + i) = some (.gen s')) (M : Mk X.K (cad X.K cc) fI) (F : FnOk X.prog X.w X.K X.mg X.base (L2.CX X.prog X.w) j fI fd ps (spG X.K fld s)) (hr : Room (j + 1) X.A) (hg : Gl X x) (hm : X.mg x = some (.ref (cad X.K cc))) (hb : Binds X.K fd ps []) (tk : Takes X W)
    (imp : ∀ ds m kk e, s' ds m kk e → ∀ a, m a = none → s (.loc a :: ds) (m.put a (.ins cc [])) (fun d m' => d = .non ∧ kk (.loc a) m') e)
    (ha : PA X (a :: es) (tLA X.K G fld W ms)) (hdb : (x == ("__debug__" : PySem.Str)) = false) (he : starEach (a :: es) X.env = (false, eval a X.env) :: starEach es X.env) (hpl : (backTo pos (starEach es X.env)).any (·.1) = false) :
    PE X (.Call (.Name x p) (a :: es) [] pos) (tL X.K G fld W (.op (.mk i) ms)) := by
  refine ⟨fun pins sh σ H Q I h => ?_⟩
  obtain ⟨r, m, Z, F', Qd, Ed, w, sl, hq, post, xp⟩ := h
  simp only [rdE] at hq
  refine wpAny_Call_Name_kw (ld_glob I hg hm ?_ hdb)
  have h1 : tLA X.K G fld W ms σ H (fun vs H1 => ∀ x dx, H1 x = none → H1 dx = none → dx ≠ x → spG X.K fld s (.ref x :: vs) (upd (upd H1 dx (.own x)) x (.ins (cad X.K cc) dx [])) (fun v H2 => v = .non ∧ Q (.ref x) H2) (WE W σ)) := by
    refine ⟨r, m, Z, F', _, Ed, w, sl, hq, fun d1 m1 v1 H1 F1 q1 e1 w1 r1 => ?_, xp⟩
    exact made_sp hG imp w1 r1 q1 (fun d m' v H' F' hk e' w' r' => post d m' v H' F' hk (e1.trans e') w' r') (xp.ext e1)
  refine PySem.W.callWith_K (h₀ := X.base) I.ok.mod.kin M.kp (thn (ha.run pos pins sh σ H _ I h1) fun us s1 ⟨vs, H1, I1, rv, q⟩ => ⟨I1.kIn, ?_⟩) he hpl
  exact run_new M F hr hb (passAt tk σ) I1 rv q
theorem s_dnil : PE X (.Dict [] [] pos) (tL X.K G fld W (.op .dnil .nil)) := by
  refine PEimp pe_dnewK fun σ H Q ⟨r, m, Z, F, Qd, Ed, w, sl, hq, post, xp⟩ => ?_
  simp only [rdE, rdA] at hq
  intro d hd
  obtain ⟨w', e'⟩ := w.new hd (.dK [])
  exact post _ m _ _ _ hq.2 e' w' (.dic (.inl upd_same) .nil)
/-! x.f = e -/
theorem fldD_ok {K : PySem.W.Frag} {Z F H : Hp} {m : Mu} {o v : V} {x z : DV} {cc : Nat} {f : PySem.Str} {kk : Mu → Prop} {Q : Hp → Prop} (w : Wf K Z F H m) (ro : RelD K F o x) (rv : RelD K F v z) (h : fldD cc x f.cps.toList z m kk) (q : ∀ m' H', kk m' → Wf K Z F H' m' → Q H') :
    ∃ a dx fs, o = .ref a ∧ H a = some (.ins (cad K cc) dx fs) ∧ fs.length < 1000 ∧ Q (upd H a (.ins (cad K cc) dx (L2.putF f v fs))) := by
  unfold fldD at h
  split at h
  · rename_i a
    obtain ⟨fs, hx, hl, hk⟩ := h
    cases ro
    obtain ⟨_, _, dx, xs, h1, h2⟩ := w.ob _ _ hx
    refine ⟨_, dx, xs, rfl, h1, by rw [h2.length]; omega, q _ _ hk (w.set hx ⟨dx, _, upd_same, h2.put rv⟩)⟩
  · exact h.elim
theorem s_fld {i cc : Nat} {f : PySem.Str} {o : Expr} {mo : Ex} (hc : Cls X.K (cad X.K cc)) (hn : NoAttr X.K (cad X.K cc) f) (ho : PE X o (tL X.K G fld W mo)) (ha : PE X a (tL X.K G fld W ma)) (hs : swapsWith a (some (.Attribute o f apos)) pos.line X.env = pure false) :
    PS X (.Assign [.Attribute o f apos] a pos) (tLS X.K G fld W (.fld mo i cc f.cps.toList ma)) := by
  refine PSimp (ps_fld ho ha hs) fun D σ H ⟨r, m, Z, F, Dd, w, sl, hq, ok⟩ => ?_
  simp only [rdS] at hq
  refine ⟨r, m, Z, F, _, _, w, sl, hq, fun d m1 v H1 F1 q1 e1 w1 r1 => ?_, ok.xok sl⟩
  refine ⟨r, m1, Z, F1, _, _, w1, sl.mono e1.sm, q1, fun d2 m2 v2 H2 F2 q2 e2 w2 r2 => ?_, (ok.ext e1).xok (sl.mono e1.sm)⟩
  obtain ⟨ad, dx, fs, rfl, h1, h2, h3⟩ := fldD_ok (Q := fun H' => D.nx σ H') w2 r2 (r1.mono e2.sm) q2 fun m' H' hk w' => ok.nx r m' σ H' F2 hk (e1.trans e2) w' (sl.mono (e1.trans e2).sm)
  exact ⟨ad, _, dx, fs, rfl, h1, hc, hn, h2, h3⟩
/-! sorted of texts; is True -/
theorem isT_sem {K : PySem.W.Frag} {neg : Bool} {x : DV} {kk : DV → Prop} (h : isTD (!neg) x kk) : ∃ b, x = .bl b ∧ kk (.bl (b == !neg)) := by
  unfold isTD at h
  split at h
  · exact ⟨_, rfl, h⟩
  · exact h.elim
theorem s_isT {j : Nat} {p2 : Pos} (ha : PE X a (tL X.K G fld W ma)) : PE X (.Compare a [.Is] [.Constant (.bool true) j p2] pos) (tL X.K G fld W (.op .isT (.cons ma .nil))) := by
  refine PEimp (pe_cmpR op_isBl ha pe_bl (nomark _)) fun σ H Q ⟨r, m, Z, F, Qd, Ed, w, sl, hq, post, xp⟩ => ?_
  simp only [rdE, rdA] at hq
  refine ⟨r, m, Z, F, _, Ed, w, sl, hq, fun d1 m1 v1 H1 F1 q1 e1 w1 r1 => ?_, xp⟩
  obtain ⟨x, ex, q1⟩ := q1
  cases ex
  obtain ⟨b, e, hk⟩ := isT_sem (K := X.K) (neg := false) q1
  cases Wf.bl r1 e
  refine ⟨b, true, rfl, rfl, post _ m1 _ H1 F1 ?_ e1 w1 (.bl _)⟩
  cases b <;> exact hk
theorem s_notT {j : Nat} {p2 : Pos} (ha : PE X a (tL X.K G fld W ma)) : PE X (.Compare a [.IsNot] [.Constant (.bool true) j p2] pos) (tL X.K G fld W (.op .notT (.cons ma .nil))) := by
  refine PEimp (pe_cmpR op_notBl ha pe_bl (nomark _)) fun σ H Q ⟨r, m, Z, F, Qd, Ed, w, sl, hq, post, xp⟩ => ?_
  simp only [rdE, rdA] at hq
  refine ⟨r, m, Z, F, _, Ed, w, sl, hq, fun d1 m1 v1 H1 F1 q1 e1 w1 r1 => ?_, xp⟩
  obtain ⟨x, ex, q1⟩ := q1
  cases ex
  obtain ⟨b, e, hk⟩ := isT_sem (K := X.K) (neg := true) q1
  cases Wf.bl r1 e
  refine ⟨b, true, rfl, rfl, post _ m1 _ H1 F1 ?_ e1 w1 (.bl _)⟩
  cases b <;> exact hk
theorem s_isTT {j : Nat} {p2 : Pos} (ha : PE X a (tL X.K G fld W ma)) : PT X (.Compare a [.Is] [.Constant (.bool true) j p2] pos) (tLT X.K G fld W (.ex (.op .isT (.cons ma .nil)))) := by
  refine PTimp (pt_cmpR op_isBl ha pe_bl (nomark _)) fun σ H Q ⟨r, m, Z, F, Qd, Ed, w, sl, hq, post, xp⟩ => ?_
  simp only [rdT, rdE, rdA] at hq
  refine ⟨r, m, Z, F, _, Ed, w, sl, hq, fun d1 m1 v1 H1 F1 q1 e1 w1 r1 => ?_, xp⟩
  obtain ⟨x, ex, q1⟩ := q1
  cases ex
  obtain ⟨b, e, c, ec, hk⟩ := isT_sem (K := X.K) (neg := false) q1
  cases Wf.bl r1 e
  cases ec
  refine ⟨b, true, rfl, rfl, _, rfl, post _ m1 _ H1 F1 ?_ e1 w1 rfl⟩
  cases b <;> exact hk
theorem s_notTT {j : Nat} {p2 : Pos} (ha : PE X a (tL X.K G fld W ma)) : PT X (.Compare a [.IsNot] [.Constant (.bool true) j p2] pos) (tLT X.K G fld W (.ex (.op .notT (.cons ma .nil)))) := by
  refine PTimp (pt_cmpR op_notBl ha pe_bl (nomark _)) fun σ H Q ⟨r, m, Z, F, Qd, Ed, w, sl, hq, post, xp⟩ => ?_
  simp only [rdT, rdE, rdA] at hq
  refine ⟨r, m, Z, F, _, Ed, w, sl, hq, fun d1 m1 v1 H1 F1 q1 e1 w1 r1 => ?_, xp⟩
  obtain ⟨x, ex, q1⟩ := q1
  cases ex
  obtain ⟨b, e, c, ec, hk⟩ := isT_sem (K := X.K) (neg := true) q1
  cases Wf.bl r1 e
  cases ec
  refine ⟨b, true, rfl, rfl, _, rfl, post _ m1 _ H1 F1 ?_ e1 w1 rfl⟩
  cases b <;> exact hk
end
end DL

set_option Elab.async false
set_option linter.all false
set_option maxRecDepth 100000
set_option maxHeartbeats 2000000
/-! DLT: sorted -/
namespace DL
open PySem PySem.W PyProof.Rows L2
theorem toPys_map : ∀ xs : List DV, toPys xs = xs.map toPy
  | [] => rfl
  | x :: r => by rw [toPys, List.map_cons, toPys_map r]
mutual
theorem alk_py : ∀ (a b : DV), alk a b = true → PySem.W.alike (toPy a) (toPy b) = true
  | .bl _, b, h => by cases b <;> simp_all [alk, toPy, PySem.W.alike]
  | .int _, b, h => by cases b <;> simp_all [alk, toPy, PySem.W.alike]
  | .str _, b, h => by cases b <;> simp_all [alk, toPy, PySem.W.alike]
  | .tup xs, b, h => by
    cases b <;> simp_all [alk, toPy, PySem.W.alike]
    exact alks_py _ _ h
  | .lst xs, b, h => by
    cases b <;> simp_all [alk, toPy, PySem.W.alike]
    exact alks_py _ _ h
  | .non, _, h => by simp [alk] at h
  | .dic _, _, h => by simp [alk] at h
  | .dit _, _, h => by simp [alk] at h
  | .ins _ _, _, h => by simp [alk] at h
  | .loc _, _, h => by simp [alk] at h
  | .scr _, _, h => by simp [alk] at h
theorem alks_py : ∀ (a b : List DV), alks a b = true → PySem.W.alikeAll (toPys a) (toPys b) = true
  | [], b, _ => by simp [toPys, PySem.W.alikeAll]
  | _ :: _, [], _ => by simp [toPys, PySem.W.alikeAll]
  | x :: r, y :: s, h => by
    simp only [alks, Bool.and_eq_true] at h
    simp only [toPys, PySem.W.alikeAll, Bool.and_eq_true]
    exact ⟨alk_py x y h.1, alks_py r s h.2⟩
end
mutual
theorem ltv_py : ∀ (a b : DV), alk a b = true → plain a = true → plain b = true → PySem.W.dataLt (toPy a) (toPy b) = ltv a b
  | .bl x, b, h, p, q => by
    cases b <;> first | (simp [alk] at h; done) | skip
    rename_i y
    simp only [toPy, PySem.W.dataLt_bool, ltv]
    cases x <;> cases y <;> rfl
  | .int x, b, h, _, _ => by
    cases b <;> simp_all [alk]
    simp only [toPy, PySem.W.dataLt_int, ltv]
  | .str x, b, h, _, _ => by
    cases b <;> simp_all [alk]
    simp only [toPy, PySem.W.dataLt_str, ltv]
  | .tup xs, b, h, p, q => by
    cases b <;> simp_all [alk]
    simp only [toPy, PySem.W.dataLt_tuple, ltv]
    exact ltvs_py _ _ h (by simpa [plain] using p) (by simpa [plain] using q)
  | .lst xs, b, h, p, q => by
    cases b <;> simp_all [alk]
    simp only [toPy, PySem.W.dataLt_list, ltv]
    exact ltvs_py _ _ h (by simpa [plain] using p) (by simpa [plain] using q)
  | .non, _, h, _, _ => by simp [alk] at h
  | .dic _, _, h, _, _ => by simp [alk] at h
  | .dit _, _, h, _, _ => by simp [alk] at h
  | .ins _ _, _, h, _, _ => by simp [alk] at h
  | .loc _, _, h, _, _ => by simp [alk] at h
  | .scr _, _, h, _, _ => by simp [alk] at h
theorem ltvs_py : ∀ (a b : List DV), alks a b = true → plains a = true → plains b = true → PyProof.Rows.lexLt itemOrd (PySem.W.keyToksAll (toPys a)) (PySem.W.keyToksAll (toPys b)) = ltvs a b
  | [], [], _, _, _ => lex_irrefl _
  | [], y :: s, _, _, _ => by
    simp only [toPys, ltvs]
    rfl
  | x :: r, [], _, _, _ => by
    simp only [toPys, ltvs]
    rfl
  | x :: r, y :: s, h, p, q => by
    simp only [alks, Bool.and_eq_true] at h
    simp only [plains, Bool.and_eq_true] at p q
    simp only [toPys]
    rw [PySem.W.dataLt_cons (alk_py x y h.1), eqv_py x y p.1 q.1, ltvs_py r s h.2 p.2 q.2, ltv_py x y h.1 p.1 q.1]
    simp only [ltvs]
end
theorem plains_mem : ∀ {xs : List DV}, plains xs = true → ∀ x ∈ xs, plain x = true
  | [], _, _, h => by cases h
  | y :: r, p, x, h => by
    simp only [plains, Bool.and_eq_true] at p
    rcases List.mem_cons.mp h with rfl | h
    · exact p.1
    · exact plains_mem p.2 x h
theorem depths_mem {n : Nat} : ∀ {xs : List DV}, depths xs ≤ n → ∀ x ∈ xs, depth x ≤ n
  | [], _, _, h => by cases h
  | y :: r, p, x, h => by
    simp only [depths] at p
    rcases List.mem_cons.mp h with rfl | h
    · omega
    · exact depths_mem (by omega) x h
theorem lev_py {a b : DV} (h : alk b a = true) (pa : plain a = true) (pb : plain b = true) : PySem.W.dataLe false toPy a b = lev a b := by
  rw [PySem.W.dataLe_eq]
  show (!PySem.W.dataLt (toPy b) (toPy a)) = _
  rw [ltv_py b a h pb pa]
  rfl
theorem srt_alike {xs : List DV} (h : srtOk xs) : PySem.W.AllAlike (xs.map toPy) := by
  intro d hd d' hd'
  obtain ⟨a, ha, rfl⟩ := List.mem_map.mp hd
  obtain ⟨b, hb, rfl⟩ := List.mem_map.mp hd'
  exact alk_py a b (h.1 a ha b hb)
theorem srt_kind {xs : List DV} (h : srtOk xs) : PySem.W.Sortable (xs.map toPy) := by
  rcases h.2.1 with h2 | h2
  · refine .inl fun d hd => ?_
    obtain ⟨a, ha, rfl⟩ := List.mem_map.mp hd
    have z := h2 a ha
    unfold tupN at z
    split at z
    · rename_i x r
      exact ⟨toPy x, toPys r, by simp only [toPy, toPys]⟩
    · cases z
  · refine .inr fun d hd => ?_
    obtain ⟨a, ha, rfl⟩ := List.mem_map.mp hd
    have z := h2 a ha
    have z2 := h.1 a ha a ha
    cases a <;> simp_all [isTup, toPy, alk]
theorem srt_depth {xs : List DV} (h : srtOk xs) {b : DV} (hb : b ∈ xs) : (toPy b).depth ≤ 20 := by
  rw [depth_py b (plains_mem h.2.2.1 b hb)]
  exact depths_mem h.2.2.2 b hb
section
variable {K : PySem.W.Frag} {F H : Hp}
abbrev VD (K : PySem.W.Frag) (F : Hp) (v : Value) (d : DV) : Prop := ∃ x, RelV x v ∧ RelD K F x d
theorem each_of : ∀ {xs : List V} {us : List Value} {ds : List DV}, Vals xs us → RelDs K F xs ds → PySem.W.EachIs (VD K F) us ds
  | _, _, _, .nil, .nil => .nil
  | _, _, _, .cons a b, .cons c d => .cons ⟨_, a, c⟩ (each_of b d)
theorem of_each : ∀ {us : List Value} {ds : List DV}, PySem.W.EachIs (VD K F) us ds → ∃ xs, Vals xs us ∧ RelDs K F xs ds
  | _, _, .nil => ⟨[], .nil, .nil⟩
  | _, _, .cons ⟨x, a, c⟩ t => by
    obtain ⟨xs, h1, h2⟩ := of_each t
    exact ⟨x :: xs, .cons a h1, .cons c h2⟩
theorem each_reads {X : Cx} {pins : List (Addr × Obj)} {σ : L2.St} {s : Shared} (I : Inv X pins σ H s) (sb : Sub F H) : ∀ {us : List Value} {ds : List DV}, plains ds = true → PySem.W.EachIs (VD X.K F) us ds → PySem.W.EachIs (fun v b => ∃ as, Reads s.heap v (toPy b) as) us ds
  | _, _, _, .nil => .nil
  | _, _, p, .cons ⟨x, a, c⟩ t => by
    simp only [plains, Bool.and_eq_true] at p
    obtain ⟨h1, _⟩ := c.dp sb p.1
    exact .cons (Dp.reads I _ x _ h1 a) (each_reads I sb p.2 t)
theorem eachF_length {us : List Value} {ds : List DV} (h : PySem.W.EachIs (VD K F) us ds) : us.length = ds.length := h.length
end
section
variable {X : Cx}
def rSrt (K : PySem.W.Frag) : List V → Hp → VK → Prop := fun vs H Q => ∃ a xs ds F, vs = [.ref a] ∧ SqL K H a xs ∧ Sub F H ∧ RelDs K F xs ds ∧ srtOk ds ∧
  ∀ zs p, RelDs K F zs (ds.mergeSort lev) → zs.length = xs.length → H p = none → Q (.ref p) (upd H p (.lst zs))
theorem cr_srt (hu : X.A.units + 64 < cLine) : CallR X (.builtin "sorted") (rSrt X.K) := by
  intro pins s σ H vs us Q I r h
  obtain ⟨a, xs, ds, F, rfl, hs, sb, rd, ok, q⟩ := h
  obtain ⟨its, rv, hl, hz⟩ := I.list hs
  obtain rfl := Vals.ref1 r
  have e := each_of rv rd
  have hlen : ds.length ≤ sizeLine := by rw [← rd.length]; exact hz
  refine PySem.W.sorted_data (bs := ds) (enc := toPy) (R := VD X.K F) hl.isList e (each_reads I sb ok.2.2.1 e) (srt_alike ok) (srt_kind ok) hlen (fun b hb => by have := srt_depth ok hb; omega) fun out ho eo => ?_
  rw [PySem.W.sort_congr (s := lev) fun a ha b hb => lev_py (ok.1 b hb a ha) (plains_mem ok.2.2.1 a ha) (plains_mem ok.2.2.1 b hb)] at eo
  obtain ⟨zs, z1, z2⟩ := of_each eo
  have l1 : zs.length = xs.length := by rw [z2.length, List.length_mergeSort, rd.length]
  obtain ⟨ep, he'⟩ := PyProof.Rows.sortedAll_at s.heap its out.toArray
  exact ⟨.ref _, upd H (s.heap.objs.size + 1) (.lst zs), I.laid (t' := s.toks) (fun _ _ => PyProof.Rows.sortedAll_old) (Nat.le_succ _) ⟨by rw [l1]; exact hz, _, ep, z1, he'⟩, rfl, q _ _ z2 l1 (I.hok.fresh (Nat.le_succ _))⟩
variable {G : Nat → Option Fn} {fld : Nat → Addr × PySem.Str} {W : WX} {a : Expr} {ma : Ex} {pos p : Pos} {k : Nat}
theorem s_srt (hr : Room k X.A) (hgl : Gl X "sorted") (hm : X.mg "sorted" = none) (ha : PE X a (tL X.K G fld W ma)) (hs : starEach [a] X.env = [(false, eval a X.env)]) : PE X (.Call (.Name "sorted" p) [a] [] pos) (tL X.K G fld W (.op .srt (.cons ma .nil))) := by
  refine PEimp (pe_callB (cr_srt hr.units) hgl hm (by decide +kernel) (pa_cons ha pa_nil hs) (by decide +kernel) (by decide +kernel) hs (by rfl)) fun σ H Q ⟨r, m, Z, F, Qd, Ed, w, sl, hq, post, xp⟩ => ?_
  simp only [rdE, rdA] at hq
  refine ⟨r, m, Z, F, _, Ed, w, sl, hq, fun d1 m1 v1 H1 F1 q1 e1 w1 r1 => ?_, xp⟩
  obtain ⟨x, ex, q1⟩ := q1
  cases ex
  unfold srtD at q1
  split at q1
  · rename_i xs e
    obtain ⟨ad, vs, rfl, hp, rs, hl⟩ := w1.lst r1 e
    refine ⟨ad, vs, xs, F1, rfl, SqL.of hp, w1.sf, rs, q1.1, fun zs q rz hz hq => ?_⟩
    obtain ⟨w', e'⟩ := w1.new hq (.lst zs)
    exact post _ m1 _ _ _ q1.2 (e1.trans e') w' (.lst upd_same (rz.mono e'.sm) (by rw [hz]; exact hl))
  · exact q1.elim
end
end DL

set_option Elab.async false
set_option linter.all false
set_option maxRecDepth 100000
set_option maxHeartbeats 4000000
/-! DLZ: sorted(xs, key=f), f a def of the module that sees no changing thing -/
namespace DL
open PySem L2 PySem.Spec PyProof.Rows
section
variable {X : Cx} {pins : List (Addr × Obj)} {σ : L2.St} {H : Hp} {s : Shared}
/-- an object of ours becomes known -/
theorem track {a : Addr} {o : HO} (I : Inv X pins σ H s) (fp : FpOk X pins H a) (new : ObjOk X.prog X.w (upd H a o) s.heap a o) : Inv X pins σ (upd H a o) s := by
  obtain ⟨f1, f2, f3, f4, f5, f6⟩ := fp
  have nb : ∀ b o', X.s_0.heap.get? b = some o' → b ∉ X.ex → b ≠ a := fun b o' e hx z => by
    subst z
    rcases f4 with z | z
    · exact hx z
    · exact absurd (Nat.lt_of_lt_of_le (Heap.lt_size e) z) (Nat.lt_irrefl _)
  have nn : ∀ b u, H b = some u → b ≠ a := fun b u e z => by rw [z, f1] at e; cases e
  refine ⟨I.ok, I.os, I.bare, ⟨I.base.keep, I.base.slot, fun b o' e n hx => ?_, I.base.there, fun b xs e => ?_, fun b o' u e => ?_, fun b ps e => ?_⟩, I.loc, I.cell, ?_, fun x c e => ?_, fun p hp => ?_, HOk.laidN I.hok (fun _ _ e => e) f1 new, I.len⟩
  · rw [upd_ne (nb b o' e hx)]
    exact I.base.free b o' e n hx
  · have := I.base.tups b xs e
    rw [upd_ne (nn b _ this)]
    exact this
  · have := I.base.frzs b o' u e
    rw [upd_ne (nn b _ this)]
    exact this
  · obtain ⟨more, this⟩ := I.base.tbls b ps e
    exact ⟨more, by rw [upd_ne (nn b _ this)]; exact this⟩
  · rw [upd_ne (Ne.symm f2)]
    exact I.free
  · rw [upd_ne (f5 x c e)]
    exact I.freeC x c e
  · obtain ⟨g1, g2, g3⟩ := I.pin p hp
    exact ⟨g1, by rw [upd_ne (f6 p hp)]; exact g2, g3⟩
theorem FpOk.to {H' : Hp} {a : Addr} (fp : FpOk X pins H a) (h : H' a = none) : FpOk X pins H' a := ⟨h, fp.2⟩
/-- the key's def runs, under sorted and list.sort -/
theorem key_call {fld : Nat → Addr × PySem.Str} {k : Nat} {f : Addr} {fd : FuncData} {ps : List PySem.Str} {sp : PSp} (F : FnOk X.prog X.w X.K X.mg X.base (L2.CX X.prog X.w) k f fd ps (spP X.K fld sp)) (hr : Room k X.A.in1.in1) (hb : Binds X.K fd ps [])
    {Fr : Hp} {x : V} {v : Value} {d kd : DV} {E : Value → Shared → Prop} (I : Inv X pins σ H s) (rv : RelV x v) (rd : RelD X.K Fr x d) (sb : Sub Fr H) (hs : sp [d] (fun r => r = kd ∧ noMut r = true) (fun _ => False)) :
    wpAny (model X.prog X.w) X.A.in1.in1 (call (.ref f) [v]) (fun u s' => ∃ y H' F', Inv X pins σ H' s' ∧ RelV y u ∧ Ext H Fr F' ∧ Sub F' H' ∧ Sub H H' ∧ RelD X.K F' y kd) E s := by
  have spec : spP X.K fld sp [x] H (fun y H' => ∃ F', Ext H Fr F' ∧ Sub F' H' ∧ Sub H H' ∧ RelD X.K F' y kd) (fun _ _ _ => False) :=
    ⟨[d], Fr, _, _, sb, .cons rd .nil, hs, fun d' y H' F' e ext sf sh r => ⟨F', ext, sf, sh, e.1 ▸ r⟩, fun _ _ _ _ _ h => h.elim⟩
  refine wpAny_call (codeAny_mono (F.run X.A.in1.in1 X.stack s H ⟨[v], []⟩ [v] [x] _ _ hr I.env0.in1.in1 (hb s [v] I.kIn (F.len _ _ _ _ spec)) (.cons rv .nil) spec) fun r s' hq => ?_)
  cases r with
  | error e =>
    obtain ⟨_, _, _, _, _, _, _, _, _, _, _, _, h⟩ := hq
    exact h.elim
  | ok fl =>
    cases fl with
    | ret u =>
      obtain ⟨y, H', I', ry, F', h1, h2, h3, h4⟩ := I.after hq
      exact ⟨y, H', F', I', ry, h1, h2, h3, h4⟩
    | next => exact False.elim hq
    | brk => exact False.elim hq
    | cont => exact False.elim hq
end
section
variable {X : Cx} {pins : List (Addr × Obj)} {σ : L2.St} {H : Hp} {s : Shared} {fld : Nat → Addr × PySem.Str} {k : Nat} {f : Addr} {fd : FuncData} {ps : List PySem.Str} {sp : PSp}
theorem Ext.less {Z Z' F F' : Hp} (e : Ext Z' F F') (h : Sub Z Z') : Ext Z F F' := ⟨e.sm, fun b o x => (e.new b o x).imp id fun z => sub_none h z⟩
theorem keys_rest (F : FnOk X.prog X.w X.K X.mg X.base (L2.CX X.prog X.w) k f fd ps (spP X.K fld sp)) (hr : Room k X.A.in1.in1) (hb : Binds X.K fd ps []) {a kS : Addr} {e1 : Nat} {vs : List Value} {xs : List V} {ds : List DV} {key : DV → DV} {Fr : Hp} {P : PySem.Fin → Shared → Prop} {E : Value → Shared → Prop}
    (I : Inv X pins σ H s) (fa : FpOk X pins H a) (fk : FpOk X pins H kS) (nk : s.heap.get? kS = some (seqObj "list" #[] 0)) (na : s.heap.get? a = some (seqObj "list" #[] e1)) (hka : kS ≠ a)
    (rv : Vals xs vs) (rd : RelDs X.K Fr xs ds) (sb : Sub Fr H) (hs : ∀ d ∈ ds, sp [d] (fun r => r = key d ∧ noMut r = true) (fun _ => False)) (ok : srtOk (ds.map key)) (hZ : vs.length ≤ sizeLine) (hu : X.A.in1.in1.units + 20 < cLine)
    (h : ∀ H' F' s' out c, Inv X pins σ H' s' → Ext H Fr F' → Sub F' H' → Sub H H' → H' a = none → s'.heap.get? a = some (seqObj "list" (List.toArray out) c) → PySem.W.KeyedOut false ((ds.map key).map toPy) vs out → P (.done (.ret .none)) s') :
    wpAny (model X.prog X.w) X.A.in1.in1 (ksk_rest a (.ref f) false vs.toArray e1 (.ref kS)) P E s := by
  have e0 := each_of rv rd
  have hlen : vs.length = ds.length := by rw [← rv.length, rd.length]
  unfold ksk_rest
  refine wpAny_bind (wpAny_rule ?_)
  first
    | rw [List.forIn_toArray]
    | (rw [← Array.forIn_toList]; simp only [List.toList_toArray])
    | rw [← Array.forIn_toList]
  refine wpAny_bind (ksk_fold (fun i s' => ∃ H' F' kA e ys, Inv X pins σ H' s' ∧ H' a = none ∧ H' kS = none ∧ s'.heap.get? kS = some (seqObj "list" kA e) ∧ s'.heap.get? a = some (seqObj "list" #[] e1) ∧ Vals ys kA.toList ∧ RelDs X.K F' ys ((ds.take i).map key) ∧ Ext H Fr F' ∧ Sub F' H' ∧ Sub H H') vs 0 s
    ⟨H, Fr, #[], 0, [], I, fa.1, fk.1, nk, na, .nil, .nil, Ext.refl _ _, sb, fun _ _ e => e⟩ ?step ?done)
  case step =>
    rintro j v s' hv ⟨H', F', kA, e, ys, I', ha', hk', nk', na', ry, rel, ext, sf, sh⟩
    simp only [Nat.zero_add] at rel ⊢
    have hj : j < vs.length := (List.getElem?_eq_some_iff.mp hv).1
    obtain ⟨d, hd⟩ : ∃ d, ds[j]? = some d := ⟨_, List.getElem?_eq_getElem (by omega)⟩
    obtain ⟨x, rx, rdx⟩ := e0.zip (v, d) (List.mem_of_getElem? (i := j) (by rw [List.getElem?_zip_eq_some]; exact ⟨hv, hd⟩))
    have hz : kA.size ≤ vs.length := by
      have h1 : ys.length = kA.size := by rw [ry.length, Array.length_toList]
      have h2 := rel.length
      rw [List.length_map, List.length_take] at h2
      omega
    have I2 : Inv X ((a, seqObj "list" #[] e1) :: (kS, seqObj "list" kA e) :: pins) σ H' s' := I'.pins_of fun p hp => by
      rcases List.mem_cons.mp hp with rfl | hp
      · exact ⟨na', ha', fa.2.1, fa.2.2.1, fun v z => by cases z⟩
      · rcases List.mem_cons.mp hp with rfl | hp
        · exact ⟨nk', hk', fk.2.1, fk.2.2.1, fun v z => by cases z⟩
        · exact I'.pin p (List.mem_append_right _ hp)
    refine wpAny_bind (wpAny_attempt (wpAny_mono (key_call (E := fun _ _ => False) F hr hb I2 rx (rdx.mono ext.sm) sf (hs d (List.mem_of_getElem? hd))) (fun u s2 he => ?_) fun _ _ z => z.elim))
    obtain ⟨y, H2, F2, I3, ru, ext2, sf2, sh2, rk⟩ := he
    try dsimp only
    obtain ⟨na2, ha2, _⟩ := I3.pin (a, seqObj "list" #[] e1) (List.mem_append_right _ List.mem_cons_self)
    obtain ⟨nk2, hk2, _⟩ := I3.pin (kS, seqObj "list" kA e) (List.mem_append_right _ (List.mem_cons_of_mem _ List.mem_cons_self))
    have I4 : Inv X pins σ H2 s2 := I3.pins_of fun p hp => I3.pin p (List.mem_append_right _ (List.mem_cons_of_mem _ (List.mem_cons_of_mem _ hp)))
    have s1 := Heap.SameBut.update s2.heap kS (Obj.mapSeq (·.push u))
    obtain ⟨c2, hc2⟩ : ∃ c2, (s2.heap.update kS (Obj.mapSeq (·.push u))).get? kS = some (seqObj "list" (kA.push u) c2) := ⟨_, get?_update_seq nk2 (·.push u)⟩
    refine wpAny_bind (listUpdate_at nk2 rfl ?_ (Nat.le_trans hz hZ) (Nat.le_trans (Nat.le_of_eq (Array.size_push ..)) (Nat.succ_le_succ (Nat.le_trans hz hZ))))
    refine wpAny_pure ⟨rfl, H2, F2, kA.push u, c2, ys ++ [y], ?_, ha2, hk2, hc2, (s1.2 a hka.symm).trans na2, ?_, ?_, ext.trans (ext2.less sh), sf2, fun b o z => sh2 b o (sh b o z)⟩
    · exact I4.turnedL (ch := [kS]) (t' := s2.toks) (fun b o hb e => (s1.2 b (fun z => hb (by rw [z]; exact List.mem_cons_self))).trans e) fun b hb => by
        rw [List.mem_singleton.mp hb]
        exact FpOk.to fk hk2
    · have ea : (kA.push u).toList = kA.toList ++ [u] := by simp
      rw [ea]
      exact ry.append (.cons ru .nil)
    · have ek : (ds.take (j + 1)).map key = (ds.take j).map key ++ [key d] := by rw [List.take_add_one, hd]; simp
      rw [ek]
      exact (rel.mono ext2.sm).append (.cons rk .nil)
  case done =>
    rintro s' ⟨H', F', kA, e, ys, I', ha', hk', nk', na', ry, rel, ext, sf, sh⟩
    rw [Nat.zero_add, List.take_of_length_le (by omega)] at rel
    have hk2 : PySem.W.EachIs (fun v d => ∃ as, Reads s'.heap v d as) kA.toList ((ds.map key).map toPy) := PySem.W.each_map toPy (each_reads I' sf ok.2.2.1 (each_of ry rel))
    have hsz : kA.size = vs.length := by
      have h1 := hk2.length
      rw [Array.length_toList, List.length_map, List.length_map] at h1
      omega
    try dsimp only
    refine wpAny_bind (listItems_at nk' rfl ?_)
    refine PySem.W.keyH_end (κ := PySem.W.dataKind s'.heap ((ds.map key).map toPy)) (h₁ := PySem.W.hideAll s'.heap [kS]) (fun b o _ z => PySem.W.of_hideAll _ z) (PySem.W.hideAll_none _ List.mem_cons_self) nk' na' hka
      (PySem.W.SortsAt.data (s := s') hk2 (srt_alike ok) (srt_kind ok) fun d hd => ?_) hsz hZ fun h3 tk3 c k3 n3 => ?_
    · obtain ⟨z, hz, rfl⟩ := List.mem_map.mp hd
      have := srt_depth ok hz
      omega
    · refine h H' F' _ _ c (I'.turnedL (ch := [a, kS]) (fun b o hb z => k3 b o (fun z => hb (by rw [z]; exact List.mem_cons_self)) (PySem.W.hideAll_get _ z fun y => hb (List.mem_cons_of_mem _ y))) fun b hb => ?_) ext sf sh ha' n3 ⟨s'.heap, kA.toList, srt_alike ok, rfl, hk2⟩
      rcases List.mem_cons.mp hb with rfl | hb
      · exact FpOk.to fa ha'
      · rw [List.mem_singleton.mp hb]
        exact FpOk.to fk hk'
def rSrtK (K : PySem.W.Frag) (f : Addr) (sp : PSp) : List V → List V → Hp → VK → Prop := fun vs zs H Q => ∃ a xs ds Fr key, vs = [.ref a] ∧ zs = [.ref f] ∧ SqL K H a xs ∧ Sub Fr H ∧ RelDs K Fr xs ds ∧ (∀ d ∈ ds, sp [d] (fun r => r = key d ∧ noMut r = true) (fun _ => False)) ∧ srtOk (ds.map key) ∧
  ∀ H' F' zs p, Ext H Fr F' → Sub F' H' → Sub H H' → RelDs K F' zs (ds.mergeSort fun a b => lev (key a) (key b)) → zs.length = xs.length → H' p = none → Q (.ref p) (upd H' p (.lst zs))
theorem room2 {A : Around} (hr : Room (k + 1) A) : Room k A.in1.in1 :=
  ⟨hr.hd, by have := hr.dp; show A.depth + 3 * k + 5 < _; omega, by have := hr.un; show A.units + 1 + 1 + 16 * k + 200 < _; omega⟩
theorem cr_srtK (F : FnOk X.prog X.w X.K X.mg X.base (L2.CX X.prog X.w) k f fd ps (spP X.K fld sp)) (hr : Room (k + 1) X.A) (hb : Binds X.K fd ps []) : CallRK X (.builtin "sorted") [Str.ofString "key"] (rSrtK X.K f sp) := by
  intro pins s σ H vs zs us ws Q I r rz h
  obtain ⟨l, xs, ds, Fr, key, rfl, rfl, hs, sb, rd, hk, ok, qq⟩ := h
  obtain ⟨its, rv, hl, hz⟩ := I.list hs
  obtain rfl := Vals.ref1 r
  obtain ⟨w1, rfl, e1⟩ := vals1 rz
  obtain rfl : w1 = Value.ref f := e1
  have hZ : its.length ≤ sizeLine := by rw [← rv.length]; exact hz
  have e0 := each_of rv rd
  refine PySem.W.sorted_of_sort hl.isList hZ (ksk_s1 _ _) (fun _ => ksk_l1 _ _) fun E' => ?_
  rw [show Builtin.«list.sort» ⟨[Value.ref (s.heap.objs.size + 1)], [Str.ofString "key"].zip [Value.ref f]⟩ = ksk_tree (s.heap.objs.size + 1) (.ref f) false from ksk_t1 f _]
  have ho := PySem.W.copyHeap_at s.heap its
  have csz : (PySem.W.copyHeap s.heap its).objs.size = s.heap.objs.size + 2 := by
    unfold PySem.W.copyHeap
    rw [size_push', Heap.size_update, size_push']
  generalize hc0 : PySem.W.copyHeap s.heap its = c0 at ho csz
  have old : ∀ b o, s.heap.get? b = some o → c0.get? b = some o := fun b o e => by rw [← hc0]; exact PySem.W.copyHeap_old e
  generalize ha0 : s.heap.objs.size + 1 = a0 at ho
  obtain ⟨n1, ho1⟩ : ∃ e1, (c0.update a0 (Obj.mapSeq fun _ => (#[] : Array Value))).get? a0 = some (seqObj "list" #[] e1) := ⟨_, get?_update_seq ho fun _ => #[]⟩
  have hkS : ((c0.update a0 (Obj.mapSeq fun _ => (#[] : Array Value))).push (seqObj "tuple" its.toArray 0)).objs.size = c0.objs.size + 1 := by rw [size_push', Heap.size_update]
  unfold ksk_tree
  refine wpAny_bind (listItems_at ho rfl ?_)
  refine wpAny_bind (listUpdate_at ho rfl ?_ (by rw [List.size_toArray]; exact hZ) (Nat.zero_le _))
  refine wpAny_bind (seqEpoch_at ho1 rfl ?_)
  refine wpAny_bind (wpAny_newTuple ?_ (by show its.length ≤ _; exact hZ))
  refine wpAny_bind (wpAny_newList ?_ (Nat.zero_le _))
  refine wpAny_holding ?_
  have kp : ∀ b o, s.heap.get? b = some o → (PySem.W.sortingHeap c0 a0 its).get? b = some o := fun b o e => PySem.W.sortingHeap_old (Nat.ne_of_lt (by rw [← ha0]; exact Nat.lt_succ_of_lt (Heap.lt_size e))) (old b o e)
  refine keys_rest F (room2 hr) hb (I.kept (h' := PySem.W.sortingHeap c0 a0 its) (t' := s.toks) kp) (I.fpOk (by omega) (I.hok.fresh (by omega))) (I.fpOk (by rw [hkS]; omega) (I.hok.fresh (by rw [hkS]; omega))) (Heap.get?_push_size _ rfl) (Heap.get?_push_of_some _ (Heap.get?_push_of_some _ ho1)) (Nat.ne_of_gt (by rw [hkS, csz, ← ha0]; exact Nat.lt_succ_of_lt (Nat.lt_succ_self _)))
    rv rd sb hk ok hZ (by have := (room2 hr).un; omega) fun H' F' s' out c I' ext sf sh ha n3 ko => ⟨rfl, ?_⟩
  rw [List.map_map] at ko
  have eo := PySem.W.keyedOut_each (toPy ∘ key) ko e0
  rw [PySem.W.sort_congr (s := fun a b => lev (key a) (key b)) fun a ha b hb => ?_] at eo
  · obtain ⟨zs, z1, z2⟩ := of_each eo
    have l1 : zs.length = xs.length := by rw [z2.length, List.length_mergeSort, rd.length]
    exact ⟨.ref a0, upd H' a0 (.lst zs), track I' (FpOk.to (I.fpOk (by omega) (I.hok.fresh (by omega))) ha) ⟨by rw [l1]; exact hz, out, c, z1, n3⟩, rfl, qq H' F' zs a0 ext sf sh (z2.mono ext.sm) l1 ha⟩
  · have ma := List.mem_map_of_mem (f := key) ha
    have mb := List.mem_map_of_mem (f := key) hb
    exact lev_py (ok.1 _ mb _ ma) (plains_mem ok.2.2.1 _ ma) (plains_mem ok.2.2.1 _ mb)
end
theorem Wf.after {K : PySem.W.Frag} {Z F H F' H' : Hp} {m : Mu} (w : Wf K Z F H m) (e : Ext H F F') (sf : Sub F' H') (sh : Sub H H') : Wf K Z F' H' m ∧ Ext Z F F' := by
  refine ⟨⟨sf, fun b o h => sh b o (w.sz b o h), fun p o h => ?_⟩, e.less w.sz⟩
  obtain ⟨a1, a2, a3⟩ := w.ob p o h
  refine ⟨?_, a2, a3.mono e.sm fun v hv => sh p v hv⟩
  cases z : F' p with
  | none => rfl
  | some u =>
    obtain ⟨x, hx⟩ := a3.some
    rcases e.new p u z with y | y
    · rw [a1] at y; cases y
    · rw [hx] at y; cases y
section
variable {X : Cx} {G : Nat → Option Fn} {fld : Nat → Addr × PySem.Str} {W : WX} {a : Expr} {ma : Ex} {pos p px kp : Pos} {k : Nat}
theorem s_srtK {f : Nat} {x : PySem.Str} {g : Fn} (hG : G f = some g) (hx : FnAt X fld k (x, []) g) (hr : Room (k + 1) X.A) (hgs : Gl X "sorted") (hm : X.mg "sorted" = none) (hgl : Gl X x) (hdb : (x == ("__debug__" : PySem.Str)) = false) (ha : PE X a (tL X.K G fld W ma)) (hs : starEach [a] X.env = [(false, eval a X.env)]) :
    PE X (.Call (.Name "sorted" p) [a] [⟨some "key", .Name x px, kp⟩] pos) (tL X.K G fld W (.op (.srtK f) (.cons ma .nil))) := by
  obtain ⟨ad, fd, ps, sp, hmx, hk, F, ⟨_, rfl, hb⟩ | ⟨z, _⟩⟩ := hx.ex
  · cases g with
    | gen s' =>
      refine PEimp (pe_callBK (id := "sorted") (ks := [Str.ofString "key"]) (r := fun _ _ _ _ => False) (fun _ _ _ _ _ _ _ _ _ _ _ _ h => h.elim) hgs hm (by decide +kernel) (pa_cons ha pa_nil hs) (pk_cons (pe_glob hgl hmx (v := .ref ad) rfl hdb) pk_nil) (by decide +kernel) (by decide +kernel) (by rw [hs]; rfl) (by rw [hs]; rfl) (by rfl) (by rfl) (by rfl)) fun σ H Q ⟨r, m, Z, F, Qd, Ed, w, sl, hq, post, xp⟩ => ?_
      simp only [rdE, rdA] at hq
      refine ⟨r, m, Z, F, _, Ed, w, sl, hq, fun d1 m1 v1 H1 F1 q1 e1 w1 r1 => ?_, xp⟩
      obtain ⟨x, ex, q1⟩ := q1
      cases ex
      unfold srtKD at q1
      split at q1
      · obtain ⟨key, ⟨s', hs', _⟩, _⟩ := q1
        rw [hG] at hs'
        cases hs'
      · exact q1.elim
    | pure s' =>
      refine PEimp (pe_callBK (cr_srtK F hr hb) hgs hm (by decide +kernel) (pa_cons ha pa_nil hs) (pk_cons (pe_glob hgl hmx (v := .ref ad) rfl hdb) pk_nil) (by decide +kernel) (by decide +kernel) (by rw [hs]; rfl) (by rw [hs]; rfl) (by rfl) (by rfl) (by rfl)) fun σ H Q ⟨r, m, Z, F, Qd, Ed, w, sl, hq, post, xp⟩ => ?_
      simp only [rdE, rdA] at hq
      refine ⟨r, m, Z, F, _, Ed, w, sl, hq, fun d1 m1 v1 H1 F1 q1 e1 w1 r1 => ?_, xp⟩
      obtain ⟨x, ex, q1⟩ := q1
      cases ex
      unfold srtKD at q1
      split at q1
      · rename_i xs e
        obtain ⟨key, ⟨s2, hs2, hkey⟩, ok, q1⟩ := q1
        rw [hG] at hs2
        cases hs2
        obtain ⟨l, vs, rfl, hp, rs, hl⟩ := w1.lst r1 e
        refine ⟨l, vs, xs, F1, key, rfl, rfl, SqL.of hp, w1.sf, rs, hkey, ok, fun H' F' zs q ext sf sh rz hz hq => ?_⟩
        obtain ⟨w2, e2⟩ := Wf.after w1 ext sf sh
        obtain ⟨w', e'⟩ := w2.new hq (.lst zs)
        exact post _ m1 _ _ _ q1 (e1.trans (e2.trans e')) w' (.lst upd_same (rz.mono e'.sm) (by rw [hz]; exact hl))
      · exact q1.elim
  · exact absurd rfl z
end
end DL

set_option Elab.async false
set_option linter.all false
set_option maxRecDepth 100000
set_option maxHeartbeats 2000000
namespace DL
open PySem L2
/-! ### the check: the text against the small language -/
def notStar : Expr → Bool
  | .Starred _ _ => false
  | _ => true
def notComp : Expr → Bool
  | .ListComp _ _ _ _ => false
  | .SetComp _ _ _ _ => false
  | .DictComp _ _ _ _ _ => false
  | _ => true
def notSlice : Expr → Bool
  | .Slice _ _ _ _ => false
  | _ => true
def notSet : Expr → Bool
  | .Set _ _ _ => false
  | _ => true
/-- no call without arguments (super) -/
def notCall0 : Expr → Bool
  | .Call _ [] [] _ => false
  | _ => true
def plainT : Expr → Bool
  | .UnaryOp .Not _ _ => false
  | .BoolOp _ _ _ => false
  | .IfExp _ _ _ _ => false
  | .Compare _ _ _ _ => false
  | _ => true
theorem star_of {e : Expr} {es : List Expr} {env : PySem.Env} (h : notStar e = true) : starEach (e :: es) env = (false, eval e env) :: starEach es env := by
  cases e <;> first | (cases h; done) | rfl
theorem back_of {pos : Pos} {env : PySem.Env} : ∀ {es : List Expr}, es.all notStar = true → (backTo pos (starEach es env)).any (·.1) = false
  | [], _ => rfl
  | e :: es, h => by
    simp only [List.all_cons, Bool.and_eq_true] at h
    rw [star_of h.1]
    show (false || (backTo pos (starEach es env)).any (·.1)) = false
    rw [back_of h.2]
    rfl
theorem plainIx_of {e : Expr} (h : notSlice e = true) : PlainIx e := by
  intro o i
  cases e <;> first | (cases h; done) | rfl
theorem base_of {e : Expr} {f : PySem.Str} {env : PySem.Env} (h : notCall0 e = true) : attributeBase e f env (eval e env) = eval e env := by
  cases e with
  | Call fn args kws p =>
    cases args with
    | nil =>
      cases kws with
      | nil => cases h
      | cons _ _ => cases fn <;> rfl
    | cons _ _ => cases fn <;> rfl
  | _ => rfl
theorem folded_of {e : Expr} {env : PySem.Env} (h : notSet e = true) (x : Value) : foldedSetIterable e env x = pure x := by
  cases e <;> first | (cases h; done) | rfl
theorem plainT_of {e : Expr} {env : PySem.Env} (h : plainT e = true) (whole : Sem Value) : isTrue e env whole = (do let v ← whole; standAt e.pos; holding [v] (truthy v)) := by
  cases e with
  | UnaryOp op a p => cases op <;> first | (cases h; done) | rfl
  | BoolOp _ _ _ => cases h
  | IfExp _ _ _ _ => cases h
  | Compare _ _ _ _ => cases h
  | _ => rfl
theorem marks_of {op : CmpOp} {e : Expr} (h : notSet e = true) : behindInMarks op e = false := by
  cases e <;> first | (cases h; done) | rfl
theorem swaps_of {e : Expr} {t : Option Expr} {l : Nat} {env : PySem.Env} (h : notComp e = true) : swapsWith e t l env = pure false := by
  cases e <;> first | (cases h; done) | rfl
def vis (sc : Scope) (x : PySem.Str) : Bool := match sc.names.lookup x with
  | some .local => true | some .cell => true | some .free => true | _ => false
def loc (sc : Scope) (x : PySem.Str) : Bool := match sc.names.lookup x with
  | some .local => true | some .cell => true | _ => false
def isLocal (sc : Scope) (x : PySem.Str) : Bool := match sc.names.lookup x with
  | some .local => true | _ => false
def glob (sc : Scope) (x : PySem.Str) : Bool := match sc.names.lookup x with
  | some .globalImplicit => true | _ => false
def okName (x : PySem.Str) : Bool := !(x == ("__debug__" : PySem.Str)) && !(x == ("__classdict__" : PySem.Str)) && !(x == ("__name__" : PySem.Str))
def okSigns (s : S) : Bool := s.all (· < 0x110000)
def cstEq : DV → DV → Bool
  | .non, .non => true
  | .bl a, .bl b => a == b
  | .int a, .int b => a == b
  | .str a, .str b => a == b && okSigns a
  | _, _ => false
def chkC (c : Cfg) (sc : Scope) (d : DV) : Expr → Bool
  | .Constant .none _ _ => cstEq d .non
  | .Constant (.bool b) _ _ => cstEq d (.bl b)
  | .Constant (.int b) _ _ => cstEq d (.int b)
  | .Constant (.str b) _ _ => cstEq d (.str b.cps.toList)
  | .Name x _ => glob sc x && okName x && (match c.gls.lookup x with | some v => cstEq d v | none => false)
  | _ => false
def chkP (c : Cfg) (sc : Scope) (fb : PySem.Str → Bool) : Pat → Expr → Bool
  | .name i, .Name x _ => decide (c.N[i]? = some x) && loc sc x && (fb x || isLocal sc x)
  | .pair a b, .Tuple [x, y] _ _ => chkP c sc fb a x && chkP c sc fb b y
  | _, _ => false
def metName : Met → PySem.Str
  | .append => "append" | .pop => "pop" | .pop0 => "pop" | .join => "join" | .split => "split" | .index => "index" | .remove => "remove"
def ownOf (N : List PySem.Str) (vs : List Nat) : List (PySem.Str × Nat) := vs.filterMap fun i => N[i]?.map fun x => (x, i)
/-! one construct each, the parts' checks handed in; and what a check that says yes tells -/
abbrev PEx := Expr → Bool
def kVar (c : Cfg) (sc : Scope) (i : Nat) : PEx
  | .Name x _ => decide (c.N[i]? = some x) && vis sc x && okName x
  | _ => false
theorem kVar_inv {c : Cfg} {sc : Scope} {i : Nat} : ∀ {e : Expr}, kVar c sc i e = true → ∃ x p, e = .Name x p ∧ c.N[i]? = some x ∧ vis sc x = true ∧ okName x = true := by
  intro e h
  cases e <;> first | (cases h; done) | (simp only [kVar, Bool.and_eq_true, decide_eq_true_eq] at h; exact ⟨_, _, rfl, h.1.1, h.1.2, h.2⟩)
def kTup (f : List Expr → Bool) : PEx
  | .Tuple xs _ _ => f xs
  | _ => false
theorem kTup_inv {f : List Expr → Bool} : ∀ {e : Expr}, kTup f e = true → ∃ xs k p, e = .Tuple xs k p ∧ f xs = true := by
  intro e h
  cases e <;> first | (cases h; done) | exact ⟨_, _, _, rfl, h⟩
def kLst (f : List Expr → Bool) : PEx
  | .List xs _ => f xs
  | _ => false
theorem kLst_inv {f : List Expr → Bool} : ∀ {e : Expr}, kLst f e = true → ∃ xs p, e = .List xs p ∧ f xs = true := by
  intro e h
  cases e <;> first | (cases h; done) | exact ⟨_, _, rfl, h⟩
def kBin (op : Operator) (f g : PEx) : PEx
  | .BinOp x o y _ => decide (o = op) && f x && g y
  | _ => false
theorem kBin_inv {op : Operator} {f g : PEx} : ∀ {e : Expr}, kBin op f g e = true → ∃ x y p, e = .BinOp x op y p ∧ f x = true ∧ g y = true := by
  intro e h
  cases e <;> first | (cases h; done) | (simp only [kBin, Bool.and_eq_true, decide_eq_true_eq] at h; obtain ⟨⟨rfl, h1⟩, h2⟩ := h; exact ⟨_, _, _, rfl, h1, h2⟩)
def kUn (op : UnaryOp) (f : PEx) : PEx
  | .UnaryOp o x _ => decide (o = op) && f x
  | _ => false
theorem kUn_inv {op : UnaryOp} {f : PEx} : ∀ {e : Expr}, kUn op f e = true → ∃ x p, e = .UnaryOp op x p ∧ f x = true := by
  intro e h
  cases e <;> first | (cases h; done) | (simp only [kUn, Bool.and_eq_true, decide_eq_true_eq] at h; obtain ⟨rfl, h1⟩ := h; exact ⟨_, _, rfl, h1⟩)
def kCmp (op : CmpOp) (f g : PEx) : PEx
  | .Compare x os ys _ => (match os, ys with
    | [o], [y] => decide (o = op) && notSet y && f x && g y
    | _, _ => false)
  | _ => false
theorem kCmp_inv {op : CmpOp} {f g : PEx} : ∀ {e : Expr}, kCmp op f g e = true → ∃ x y p, e = .Compare x [op] [y] p ∧ notSet y = true ∧ f x = true ∧ g y = true := by
  intro e h
  cases e <;> first | (cases h; done) | skip
  rename_i x os ys p
  match os, ys, h with
  | [o], [y], h =>
    simp only [kCmp, Bool.and_eq_true, decide_eq_true_eq] at h
    obtain ⟨⟨⟨rfl, h1⟩, h2⟩, h3⟩ := h
    exact ⟨_, _, _, rfl, h1, h2, h3⟩
def kCmp2 (op op' : CmpOp) (f g q : PEx) : PEx
  | .Compare x os ys _ => (match os, ys with
    | [o, o'], [y, z] => decide (o = op) && decide (o' = op') && notSet z && f x && g y && q z
    | _, _ => false)
  | _ => false
theorem kCmp2_inv {op op' : CmpOp} {f g q : PEx} : ∀ {e : Expr}, kCmp2 op op' f g q e = true → ∃ x y z p, e = .Compare x [op, op'] [y, z] p ∧ notSet z = true ∧ f x = true ∧ g y = true ∧ q z = true := by
  intro e h
  cases e <;> first | (cases h; done) | skip
  rename_i x os ys p
  match os, ys, h with
  | [o, o'], [y, z], h =>
    simp only [kCmp2, Bool.and_eq_true, decide_eq_true_eq] at h
    obtain ⟨⟨⟨⟨⟨rfl, rfl⟩, h1⟩, h2⟩, h3⟩, h4⟩ := h
    exact ⟨_, _, _, _, rfl, h1, h2, h3, h4⟩
def kBool (op : BoolOp) (f g : PEx) : PEx
  | .BoolOp o vs p => decide (o = op) && (match vs with
    | x :: y :: r => f x && (match r with
      | [] => g y
      | _ :: _ => g (.BoolOp op (y :: r) p))
    | _ => false)
  | _ => false
theorem kBool_inv {op : BoolOp} {f g : PEx} : ∀ {e : Expr}, kBool op f g e = true → ∃ x y p, f x = true ∧ ((e = .BoolOp op [x, y] p ∧ g y = true) ∨ ∃ z r, e = .BoolOp op (x :: y :: z :: r) p ∧ g (.BoolOp op (y :: z :: r) p) = true) := by
  intro e h
  cases e <;> first | (cases h; done) | skip
  rename_i o vs p
  simp only [kBool, Bool.and_eq_true, decide_eq_true_eq] at h
  obtain ⟨rfl, h⟩ := h
  match vs, h with
  | [x, y], h =>
    simp only [Bool.and_eq_true] at h
    exact ⟨x, y, p, h.1, .inl ⟨rfl, h.2⟩⟩
  | x :: y :: z :: r, h =>
    simp only [Bool.and_eq_true] at h
    exact ⟨x, y, p, h.1, .inr ⟨z, r, rfl, h.2⟩⟩
def kIf (t f g : PEx) : PEx
  | .IfExp q x y _ => t q && f x && g y
  | _ => false
theorem kIf_inv {t f g : PEx} : ∀ {e : Expr}, kIf t f g e = true → ∃ q x y p, e = .IfExp q x y p ∧ t q = true ∧ f x = true ∧ g y = true := by
  intro e h
  cases e <;> first | (cases h; done) | (simp only [kIf, Bool.and_eq_true] at h; exact ⟨_, _, _, _, rfl, h.1.1, h.1.2, h.2⟩)
def kSub (f g : PEx) : PEx
  | .Subscript x y _ => notSlice y && f x && g y
  | _ => false
theorem kSub_inv {f g : PEx} : ∀ {e : Expr}, kSub f g e = true → ∃ x y p, e = .Subscript x y p ∧ notSlice y = true ∧ f x = true ∧ g y = true := by
  intro e h
  cases e <;> first | (cases h; done) | (simp only [kSub, Bool.and_eq_true] at h; exact ⟨_, _, _, rfl, h.1.1, h.1.2, h.2⟩)
def kSlc (f : PEx) (g q : Option Expr → Bool) : PEx
  | .Subscript x y _ => (match y with
    | .Slice l h s _ => s.isNone && f x && g l && q h
    | _ => false)
  | _ => false
theorem kSlc_inv {f : PEx} {g q : Option Expr → Bool} : ∀ {e : Expr}, kSlc f g q e = true → ∃ x l h p2 p, e = .Subscript x (.Slice l h none p2) p ∧ f x = true ∧ g l = true ∧ q h = true := by
  intro e h
  cases e <;> first | (cases h; done) | skip
  rename_i x y p
  cases y <;> first | (cases h; done) | skip
  rename_i l hh st p2
  simp only [kSlc, Bool.and_eq_true] at h
  cases st with
  | some _ => cases h.1.1.1
  | none => exact ⟨_, _, _, _, _, rfl, h.1.1.2, h.1.2, h.2⟩
/-- a[::-1] -/
def kRev (f : PEx) : PEx
  | .Subscript x y _ => (match y with
    | .Slice none none (some (.UnaryOp .USub (.Constant (.int i) _ _) _)) _ => decide (i = 1) && f x
    | _ => false)
  | _ => false
theorem kRev_inv {f : PEx} : ∀ {e : Expr}, kRev f e = true → ∃ x k p1 p2 p3 p, e = .Subscript x (.Slice none none (some (.UnaryOp .USub (.Constant (.int 1) k p1) p2)) p3) p ∧ f x = true := by
  intro e h
  cases e <;> first | (cases h; done) | skip
  rename_i x y p
  cases y <;> first | (cases h; done) | skip
  rename_i l hh st p2
  match l, hh, st, h with
  | none, none, some (.UnaryOp .USub (.Constant (.int i) k p1) p2'), h =>
    simp only [kRev, Bool.and_eq_true, decide_eq_true_eq] at h
    obtain ⟨rfl, h⟩ := h
    exact ⟨_, _, _, _, _, _, rfl, h⟩
/-- f(a, ..) with a name -/
def kCall (okf : PySem.Str → Bool) (g : List Expr → Bool) : PEx
  | .Call fn as ks _ => (match fn, as, ks with
    | .Name x _, y :: ys, [] => okf x && g (y :: ys) && (y :: ys).all notStar
    | _, _, _ => false)
  | _ => false
theorem kCall_inv {okf : PySem.Str → Bool} {g : List Expr → Bool} : ∀ {e : Expr}, kCall okf g e = true → ∃ x px y ys p, e = .Call (.Name x px) (y :: ys) [] p ∧ okf x = true ∧ g (y :: ys) = true ∧ notStar y = true ∧ ys.all notStar = true := by
  intro e h
  cases e <;> first | (cases h; done) | skip
  rename_i fn as ks p
  cases fn <;> first | (cases h; done) | skip
  match as, ks, h with
  | y :: ys, [], h =>
    simp only [kCall, Bool.and_eq_true, List.all_cons] at h
    exact ⟨_, _, _, _, _, rfl, h.1.1, h.1.2, h.2.1, h.2.2⟩
/-- f(..) of a def: by place, without arguments, or by keywords -/
def kFn (okf : PySem.Str → Bool) (ks : List PySem.Str) (g : List Expr → Bool) : PEx
  | .Call fn as kws _ => (match fn with
    | .Name x _ => okf x && (if ks = [] then kws.isEmpty && g as && as.all notStar else as.isEmpty && decide (kws.map (·.arg) = ks.map some) && g (kwEs kws))
    | _ => false)
  | _ => false
theorem kFn_inv {okf : PySem.Str → Bool} {ks : List PySem.Str} {g : List Expr → Bool} : ∀ {e : Expr}, kFn okf ks g e = true → ∃ x px as kws p, e = .Call (.Name x px) as kws p ∧ okf x = true ∧
    ((ks = [] ∧ kws = [] ∧ g as = true ∧ as.all notStar = true) ∨ (ks ≠ [] ∧ as = [] ∧ kws.map (·.arg) = ks.map some ∧ g (kwEs kws) = true)) := by
  intro e h
  cases e <;> first | (cases h; done) | skip
  rename_i fn as kws p
  cases fn <;> first | (cases h; done) | skip
  simp only [kFn, Bool.and_eq_true] at h
  obtain ⟨h1, h2⟩ := h
  by_cases hk : ks = []
  · rw [if_pos hk] at h2
    simp only [Bool.and_eq_true] at h2
    exact ⟨_, _, _, _, _, rfl, h1, .inl ⟨hk, by simpa using h2.1.1, h2.1.2, h2.2⟩⟩
  · rw [if_neg hk] at h2
    simp only [Bool.and_eq_true, decide_eq_true_eq] at h2
    exact ⟨_, _, _, _, _, rfl, h1, .inr ⟨hk, by simpa using h2.1.1, h2.1.2, h2.2⟩⟩
def kIsi (sc : Scope) (k : Kind) (f : PEx) : PEx
  | .Call fn as ks _ => (match fn, as, ks with
    | .Name x _, [y, .Name t _], [] => kPlain k && glob sc x && decide (x = "isinstance") && glob sc t && decide (t = kStr k) && notStar y && f y
    | _, _, _ => false)
  | _ => false
theorem kIsi_inv {sc : Scope} {k : Kind} {f : PEx} : ∀ {e : Expr}, kIsi sc k f e = true → ∃ px y pt p, e = .Call (.Name "isinstance" px) [y, .Name (kStr k) pt] [] p ∧ kPlain k = true ∧ glob sc "isinstance" = true ∧ glob sc (kStr k) = true ∧ notStar y = true ∧ f y = true := by
  intro e h
  cases e <;> first | (cases h; done) | skip
  rename_i fn as ks p
  cases fn <;> first | (cases h; done) | skip
  rename_i x px
  match as, ks, h with
  | [y, .Name t pt], [], h =>
    simp only [kIsi, Bool.and_eq_true, decide_eq_true_eq] at h
    obtain ⟨⟨⟨⟨⟨⟨h1, h2⟩, rfl⟩, h4⟩, rfl⟩, h6⟩, h7⟩ := h
    exact ⟨_, _, _, _, rfl, h1, h2, h4, h6, h7⟩
def kMet (t : Met) (f g : PEx) : PEx
  | .Call fn as ks p => (match fn, as, ks with
    | .Attribute y fd ap, [x], [] => decide (fd = metName t) && notCall0 y && notStar x && (ap.endLine == p.line) && f y && g x
    | _, _, _ => false)
  | _ => false
theorem kMet_inv {t : Met} {f g : PEx} : ∀ {e : Expr}, kMet t f g e = true → ∃ y ap x p, e = .Call (.Attribute y (metName t) ap) [x] [] p ∧ notCall0 y = true ∧ notStar x = true ∧ (ap.endLine == p.line) = true ∧ f y = true ∧ g x = true := by
  intro e h
  cases e <;> first | (cases h; done) | skip
  rename_i fn as ks p
  cases fn <;> first | (cases h; done) | skip
  rename_i y fd ap
  match as, ks, h with
  | [x], [], h =>
    simp only [kMet, Bool.and_eq_true, decide_eq_true_eq] at h
    obtain ⟨⟨⟨⟨⟨rfl, h2⟩, h3⟩, h4⟩, h5⟩, h6⟩ := h
    exact ⟨_, _, _, _, rfl, h2, h3, h4, h5, h6⟩
/-- what a comprehension wants of its parts -/
def kComp (c : Cfg) (sc : Scope) (p : Pat) (vs : List Nat) (w : Expr → PEx) (t : Scope → (PySem.Str → Bool) → List Expr → Bool) (g : Scope → (PySem.Str → Bool) → PEx) : PEx
  | .ListComp elt gens scope _ => (match gens with
    | [⟨tg, iter, ifs, n⟩] => decide (n = 0) && notSet iter && blkC c.N sc scope (ownOf c.N vs) && decide ((ownOf c.N vs).map (·.2) = vs) && (pslots p).all (fun i => decide (i ∈ vs)) && w tg iter &&
        chkP c (relS scope sc) (fun x => scope.names.lookup x == some .cell) p tg && t (relS scope sc) (fun x => scope.names.lookup x == some .cell) ifs && g (relS scope sc) (fun x => scope.names.lookup x == some .cell) elt
    | _ => false)
  | _ => false
theorem kComp_inv {c : Cfg} {sc : Scope} {p : Pat} {vs : List Nat} {w : Expr → PEx} {t : Scope → (PySem.Str → Bool) → List Expr → Bool} {g : Scope → (PySem.Str → Bool) → PEx} : ∀ {e : Expr}, kComp c sc p vs w t g e = true →
    ∃ elt tg iter ifs scope ps, e = .ListComp elt [⟨tg, iter, ifs, 0⟩] scope ps ∧ notSet iter = true ∧ blkC c.N sc scope (ownOf c.N vs) = true ∧ (ownOf c.N vs).map (·.2) = vs ∧ (pslots p).all (fun i => decide (i ∈ vs)) = true ∧ w tg iter = true ∧
      chkP c (relS scope sc) (fun x => scope.names.lookup x == some .cell) p tg = true ∧ t (relS scope sc) (fun x => scope.names.lookup x == some .cell) ifs = true ∧ g (relS scope sc) (fun x => scope.names.lookup x == some .cell) elt = true := by
  intro e h
  cases e <;> first | (cases h; done) | skip
  rename_i elt gens scope ps
  match gens, h with
  | [⟨tg, iter, ifs, n⟩], h =>
    simp only [kComp, Bool.and_eq_true, decide_eq_true_eq] at h
    obtain ⟨⟨⟨⟨⟨⟨⟨⟨rfl, h1⟩, h2⟩, h3⟩, h4⟩, h5⟩, h6⟩, h7⟩, h8⟩ := h
    exact ⟨_, _, _, _, _, _, rfl, h1, h2, h3, h4, h5, h6, h7, h8⟩
/-- an expression's checks that a test takes too -/
def isCmp : Ex → Bool
  | .cmp _ _ _ => true
  | .cmp2 _ _ _ _ _ => true
  | .op .isT _ => true
  | .op .notT _ => true
  | _ => false
def isTupE : Expr → Bool
  | .Tuple _ _ _ => true
  | _ => false
def kRng (sc : Scope) (g : List Expr → Bool) : PEx := kCall (fun x => glob sc x && decide (x = "range")) g
def k1 (f : PEx) : List Expr → Bool
  | [x] => f x
  | _ => false
def k2 (f g : PEx) : List Expr → Bool
  | [x, y] => f x && g y
  | _ => false
/-- a, b, -1 -/
def k3 (f g : PEx) : List Expr → Bool
  | [x, y, .UnaryOp .USub (.Constant (.int i) _ _) _] => decide (i = 1) && f x && g y
  | _ => false
theorem k3_inv {f g : PEx} : ∀ {l : List Expr}, k3 f g l = true → ∃ x y j p1 p2, l = [x, y, .UnaryOp .USub (.Constant (.int 1) j p1) p2] ∧ f x = true ∧ g y = true := by
  intro l h
  unfold k3 at h
  split at h
  · simp only [Bool.and_eq_true, decide_eq_true_eq] at h
    obtain ⟨⟨rfl, h1⟩, h2⟩ := h
    exact ⟨_, _, _, _, _, rfl, h1, h2⟩
  · cases h
def isNew : Ex → Bool
  | .lst _ => true
  | .comp _ _ _ _ _ => true
  | .blt .list (.cons _ .nil) => true
  | _ => false
def isSlc : Ex → Bool
  | .slc _ _ _ => true
  | .bin .add _ _ => true
  | _ => false
def metOk : Met → Bool
  | .append => true | .pop => true | .join => true | .index => true | .remove => true | _ => false
/-- the parts of an operation's expression -/
def noStars : List Expr → Option (List Expr) := fun es => if es.all notStar then some es else none
def kOp (c : Cfg) (sc : Scope) (o : Op) (e : Expr) : Option (List Expr) :=
  match o with
  | .att i cc f => (match e with
    | .Attribute y nm _ => if notCall0 y && (match (c.mts.lookup i) with | some t => decide (t.kind = 3) && decide (t.cls = cc) && decide (t.name = nm) | none => false) && decide (nm.cps.toList = f) then some [y] else none
    | _ => none)
  | .prp i cc => (match e with
    | .Attribute y nm _ => if notCall0 y && (match (c.mts.lookup i) with | some t => decide (t.kind = 0) && decide (t.cls = cc) && decide (t.name = nm) | none => false) then some [y] else none
    | _ => none)
  | .mk i => (match e with
    | .Call (.Name x _) (y :: ys) [] _ => if glob sc x && okName x && (match (c.mts.lookup i) with | some t => decide (t.kind = 2) && decide (t.name = x) | none => false) && (y :: ys).all notStar then some (y :: ys) else none
    | _ => none)
  | .dnil => (match e with
    | .Dict [] [] _ => some []
    | _ => none)
  | .srt => (match e with
    | .Call (.Name x _) [y] [] _ => if glob sc x && decide (x = "sorted") && notStar y then some [y] else none
    | _ => none)
  | .srtK f => (match e with
    | .Call (.Name x _) [y] [⟨some kn, .Name fx _, _⟩] _ => if glob sc x && decide (x = "sorted") && notStar y && decide (kn = "key") && glob sc fx && okName fx && decide (c.fns.lookup f = some (fx, [])) then some [y] else none
    | _ => none)
  | .isT => (match e with
    | .Compare y [.Is] [.Constant (.bool true) _ _] _ => some [y]
    | _ => none)
  | .notT => (match e with
    | .Compare y [.IsNot] [.Constant (.bool true) _ _] _ => some [y]
    | _ => none)
/-- o.m(..) -/
def kMth (c : Cfg) (i cc : Nat) (nm : S) (f : PEx) (g : List Expr → Bool) : PEx
  | .Call (.Attribute y m ap) es [] p => notCall0 y && (ap.endLine == p.line) && (match (c.mts.lookup i) with | some t => decide (t.kind = 1) && decide (t.cls = cc) && decide (t.name = m) | none => false) && decide (m.cps.toList = nm) && decide (es.length < 20) && es.all notStar && f y && g es
  | _ => false
def isYes : Ts → Bool
  | .yes => true
  | _ => false
def kStar (f : PEx) : PEx
  | .Starred y _ => f y
  | _ => false
mutual
def chkE (c : Cfg) : Ex → Scope → (PySem.Str → Bool) → Expr → Bool
  | .var i, sc, _, e => kVar c sc i e
  | .cst d, sc, _, e => chkC c sc d e
  | .tup es, sc, fb, e => kTup (chkI c es sc fb) e
  | .lst es, sc, fb, e => kLst (chkI c es sc fb) e
  | .bin op a b, sc, fb, e => kBin (bopP op) (chkE c a sc fb) (chkE c b sc fb) e
  | .neg a, sc, fb, e => kUn .USub (chkE c a sc fb) e
  | .cmp op a b, sc, fb, e => kCmp (copP op) (chkE c a sc fb) (chkE c b sc fb) e
  | .cmp2 op op' a b d, sc, fb, e => kCmp2 (copP op) (copP op') (chkE c a sc fb) (chkE c b sc fb) (chkE c d sc fb) e
  | .notv a, sc, fb, e => kUn .Not (chkE c a sc fb) e
  | .andv a b, sc, fb, e => kBool .And (chkE c a sc fb) (chkE c b sc fb) e
  | .orv a b, sc, fb, e => kBool .Or (chkE c a sc fb) (chkE c b sc fb) e
  | .ife t a b, sc, fb, e => kIf (chkT c t sc fb) (chkE c a sc fb) (chkE c b sc fb) e
  | .sub a b, sc, fb, e => kSub (chkE c a sc fb) (chkE c b sc fb) e
  | .slc a lo hi, sc, fb, e => kSlc (chkE c a sc fb) (chkO c lo sc fb) (chkO c hi sc fb) e
  | .rev a, sc, fb, e => kRev (chkE c a sc fb) e
  | .call f es, sc, fb, e => kFn (fun x => glob sc x && okName x && decide (((c.fns.lookup f).map (·.1)) = some x)) (((c.fns.lookup f).map (·.2)).getD []) (chkA c es sc fb) e
  | .blt b es, sc, fb, e => kCall (fun x => served b && glob sc x && decide (x = bltName b)) (chkA c es sc fb) e
  | .isi a k, sc, fb, e => kIsi sc k (chkE c a sc fb) e
  | .met t o es, sc, fb, e => metOk t && chkM c es sc fb t (chkE c o sc fb) e
  | .comp p vs it t a, sc, fb, e => kComp c sc p vs (chkW c it sc fb) (fun sc' fb' es => (isYes t && es.isEmpty) || k1 (chkT c t sc' fb') es) (fun sc' fb' => chkE c a sc' fb') e
  | .own a, sc, fb, e => (isNew a || isSlc a) && chkE c a sc fb e
  | .frz a, sc, fb, e => chkE c a sc fb e
  | .op o es, sc, fb, e => (match kOp c sc o e with
    | some xs => chkA c es sc fb xs
    | none => false)
  | .mth i cc nm o es, sc, fb, e => kMth c i cc nm (chkE c o sc fb) (chkA c es sc fb) e
def chkM (c : Cfg) : Exs → Scope → (PySem.Str → Bool) → Met → PEx → Expr → Bool
  | .nil, _, _, _, _, _ => false
  | .cons a r, sc, fb, t, o, e => (match r with | .nil => true | _ => false) && kMet t o (chkE c a sc fb) e
def chkT (c : Cfg) : Ts → Scope → (PySem.Str → Bool) → Expr → Bool
  | .and a b, sc, fb, e => kBool .And (chkT c a sc fb) (chkT c b sc fb) e
  | .or a b, sc, fb, e => kBool .Or (chkT c a sc fb) (chkT c b sc fb) e
  | .not a, sc, fb, e => kUn .Not (chkT c a sc fb) e
  | .ex a, sc, fb, e => (isCmp a || plainT e) && chkE c a sc fb e
  | .yes, _, _, _ => false
def chkO (c : Cfg) : Ox → Scope → (PySem.Str → Bool) → Option Expr → Bool
  | .none, _, _, e => e.isNone
  | .some a, sc, fb, e => match e with
    | some x => chkE c a sc fb x
    | none => false
def chkA (c : Cfg) : Exs → Scope → (PySem.Str → Bool) → List Expr → Bool
  | .nil, _, _, e => e.isEmpty
  | .cons a r, sc, fb, e => match e with
    | x :: t => notStar x && chkE c a sc fb x && chkA c r sc fb t
    | [] => false
def chkI (c : Cfg) : Its → Scope → (PySem.Str → Bool) → List Expr → Bool
  | .nil, _, _, e => e.isEmpty
  | .one a r, sc, fb, e => match e with
    | x :: t => notStar x && chkE c a sc fb x && chkI c r sc fb t
    | [] => false
  | .star a r, sc, fb, e => match e with
    | x :: t => kStar (chkE c a sc fb) x && chkI c r sc fb t
    | [] => false
def chkW (c : Cfg) : It → Scope → (PySem.Str → Bool) → Expr → Expr → Bool
  | .seq a, sc, fb, _, e => chkE c a sc fb e
  | .range1 a, sc, fb, _, e => kRng sc (k1 (chkE c a sc fb)) e
  | .range2 a b, sc, fb, _, e => kRng sc (k2 (chkE c a sc fb) (chkE c b sc fb)) e
  | .range3 a b s, sc, fb, _, e => decide (s = -1) && kRng sc (k3 (chkE c a sc fb) (chkE c b sc fb)) e
  | .enum a, sc, fb, tg, e => isTupE tg && kCall (fun x => glob sc x && decide (x = "enumerate")) (k1 (chkE c a sc fb)) e
  | .zip _ _, _, _, _, _ => false
end
theorem chkE_test {c : Cfg} {i : Nat} {sc : Scope} {fb : PySem.Str → Bool} {e : Expr} : chkE c (.var i) sc fb e = kVar c sc i e := rfl
end DL

set_option Elab.async false
set_option linter.all false
set_option maxRecDepth 100000
set_option maxHeartbeats 4000000
/-! DLW: enumerate of a tuple; range down; while with := -/
namespace DLEn
open PySem PySem.SeqAt
open PySem.AutoSeq1 (wpAny_loadPart')
theorem newT (l : Addr) (items : Array Value) (n : Nat) (dct : Option Addr) (sl : Array (Option Value)) :
    Meets (Builtin.«enumerate.__new__» ⟨[.type "enumerate", .ref l], []⟩) (fun _ R s => s.heap.get? l = some { cls := .type "tuple", dict := dct, data := .seq items n, slots := sl } ∧
      R (.ok (.ret (.ref (s.heap.push { cls := .type "tuple_iterator", data := .fields #[.ref l, .int 0 0] }).objs.size)))
        { s with heap := (s.heap.push { cls := .type "tuple_iterator", data := .fields #[.ref l, .int 0 0] }).push { cls := .type "enumerate", data := .fields #[.none, .bool false, .ref s.heap.objs.size, rawInt 0, .none, .none] } }) :=
  .of_wp fun prog w A R s h => by
    obtain ⟨hp, g, d, tk, os⟩ := s
    obtain ⟨at0, fin⟩ := h
    have isT : Heap.IsTuple (Shared.heap ⟨hp, g, d, tk, os⟩) l items := ⟨_, at0, rfl, n, rfl⟩
    have q1 : ∀ {A' : Around} {E : Value → Shared → Prop} {Q : Value → Shared → Prop}, Q (.ref hp.objs.size) ⟨hp.push { cls := .type "tuple_iterator", data := .fields #[.ref l, .int 0 0] }, g, d, tk, os⟩ → wpAny (model prog w) A' (pyIter (.ref l)) Q E ⟨hp, g, d, tk, os⟩ :=
      fun q => wpAny_pyIter_tuple isT q
    have sub := sub_enumerate
    wp_walk using q1
    refine wpAny_stack_any fun st => wpAny_pure ?_
    split
    · rename_i cc _ _ _ _ _
      cases (cc == Value.type "enumerate") <;> (wp_walk using q1; exact ⟨_, rfl, fin⟩)
    · wp_walk using q1
      exact ⟨_, rfl, fin⟩
section
variable {prog : Program} {w : World} {A : Around} {E : Value → Shared → Prop} {s : Shared}
theorem callT {l : Addr} {items : Array Value} {Q : Value → Shared → Prop} (isT : s.heap.IsTuple l items)
    (fin : ∀ h', IsEnum h' (s.heap.objs.size + 1) s.heap.objs.size 0 .none → h'.IsTupleIter s.heap.objs.size l 0 → h'.objs.size = s.heap.objs.size + 2 →
      (∀ b o, s.heap.get? b = some o → h'.get? b = some o) → Q (.ref (s.heap.objs.size + 1)) { s with heap := h' }) :
    wpAny (model prog w) A (call (.type "enumerate") [.ref l]) Q E s := by
  obtain ⟨⟨c, dct, dt, sl⟩, at0, ec, n, ed⟩ := isT
  simp only at ec ed
  subst ec ed
  refine callType_new F.called_enumerate (by decide) (F.typeCall_enumerate_1 _) (F.newCall_enumerate_1 _) (fun obj => F.args_object_init_2 obj _) F.entry_enumerate_new (newT l items n dct sl) ⟨at0, ?_⟩
  have z : (s.heap.push { cls := .type "tuple_iterator", data := .fields #[.ref l, .int 0 0] }).objs.size = s.heap.objs.size + 1 := Heap.size_push ..
  show _ ∧ _
  rw [z]
  have en : IsEnum ((s.heap.push { cls := .type "tuple_iterator", data := .fields #[.ref l, .int 0 0] }).push { cls := .type "enumerate", data := .fields #[.none, .bool false, .ref s.heap.objs.size, rawInt 0, .none, .none] }) (s.heap.objs.size + 1) s.heap.objs.size 0 .none := by
    have y := Heap.get?_push_size (s.heap.push { cls := .type "tuple_iterator", data := .fields #[.ref l, .int 0 0] }) (o := { cls := .type "enumerate", data := .fields #[.none, .bool false, .ref s.heap.objs.size, rawInt 0, .none, .none] }) rfl
    rw [z] at y
    exact y
  exact ⟨⟨_, en, rfl⟩, fin _ en ⟨_, Heap.get?_push_of_some _ (Heap.get?_push_size _ rfl), rfl, rfl⟩ (by rw [Heap.size_push, z]) fun b o x => Heap.get?_push_of_some _ (Heap.get?_push_of_some _ x)⟩
theorem endT {e it l : Addr} {i : Nat} {items : Array Value} {old : Value} {Q : Option Value → Shared → Prop} (hh : A.handled = none) (en : IsEnum s.heap e it i old) (hit : s.heap.IsTupleIter it l i) (isT : s.heap.IsTuple l items) (no : items[i]? = none)
    (fin : ∀ h', Heap.ExtBut it s.heap h' → Q none { s with heap := h' }) : wpAny (model prog w) A (pyNext (.ref e)) Q E s := by
  have ty : s.TypeIs (.ref e) "enumerate" := ⟨_, en, rfl⟩
  unfold pyNext
  refine wpAny_bind (wpAny_attempt (wpAny_callSpecial?_slot (name := Str.ofString "__next__") ty F.slot_enumerate_next (wpAny_call_entry F.slot_enumerate_next ty F.entry_enumerate_next ?_ (F.args_enumerate_next_1 _))))
  show wpAny _ _ (field (.ref e) 2 >>= _) _ _ _
  refine wpAny_bind (wpAny_field en rfl (x := .ref it) rfl ?_)
  refine wpAny_bind (wpAny_nextOf_tuple_end hh hit isT no fun h' x he' hx' => ?_)
  obtain ⟨o, ho, hc⟩ := hx'
  refine wpAny_bind (wpAny_isInstance (T := "StopIteration") (b := true) ⟨o, ho, hc⟩ isSubtype_stop ?_)
  exact wpAny_pure (fin _ he')
end
end DLEn
namespace DL
open PySem PyProof.Rows L2
/-- the tuple at a, each item in a new pair -/
def IteT (K : PySem.W.Frag) (a : Addr) : L2.It :=
  ⟨fun i H => ∃ (xs : List V) (x : V), SqT K H a xs ∧ xs[i]? = some x, fun i H v H' => ∃ T x, v = .ref T ∧ H T = none ∧ H' = upd H T (.tup [.int (i : Nat), x]) ∧ ∀ xs, SqT K H a xs → xs[i]? = some x, fun i H => ∃ xs : List V, SqT K H a xs ∧ xs.length ≤ i⟩
theorem turn_enumT {P : Program} {w : World} {K : PySem.W.Frag} {elts : List Expr} {kk : Nat} {tpos : Pos} (a e it : Addr) :
    Turn P w K (.Tuple elts kk tpos) (IteT K a) [e, it] e (fun i h => (∃ old, IsEnum h e it ((i : Nat) : Int) old) ∧ h.IsTupleIter it a i ∧ e ≠ it) where
  mem := by simp
  obj := fun i h st b hb => by
    obtain ⟨⟨old, he⟩, ⟨o, ho, hc, hd⟩, _⟩ := st
    have e' : b = e ∨ b = it := by simpa using hb
    rcases e' with z | z
    · rw [z]; exact ⟨_, he, fun v q => nomatch q⟩
    · rw [z]; exact ⟨o, ho, fun v q => by rw [hd] at q; cases q⟩
  keep := fun i h h' st k => let ⟨⟨old, he⟩, hi, hne⟩ := st; ⟨⟨old, k e (by simp) _ he⟩, hi.at fun o q => k it (by simp) o q, hne⟩
  item := by
    intro X hP hw hK hc i pins s σ H E I hf st hg
    subst hP hw hK
    obtain ⟨⟨old, he⟩, hit, hne⟩ := st
    obtain ⟨xs, x, hq, hx⟩ := hg
    obtain ⟨its, rv, p, hz⟩ := I.tuple hq
    obtain ⟨u, hu, ru⟩ := rv.get hx
    have hel : e < s.heap.objs.size := Heap.lt_size he
    have hil : it < s.heap.objs.size := by obtain ⟨_, q, _⟩ := hit; exact Heap.lt_size q
    have p : s.heap.IsTuple a its.toArray := p
    have hai : a ≠ it := fun z => by
      obtain ⟨o1, y1, y2, _⟩ := id p
      obtain ⟨o2, w1, w2, _⟩ := id hit
      rw [z, w1] at y1
      cases y1
      rw [w2] at y2
      exact absurd (Value.type.inj y2) (by decide)
    have hae : e ≠ a := fun z => by
      obtain ⟨o1, y1, y2, _⟩ := id p
      rw [← z] at y1
      have w1 : s.heap.get? e = some _ := he
      rw [w1] at y1
      cases y1
      exact absurd (Value.type.inj y2) (by decide)
    have hlt : i < its.toArray.size := by
      have := (List.getElem?_eq_some_iff.mp hu).1
      simpa using this
    refine wpAny_pyNext_enum_itemD (Draws.tuple (A := X.A.in1) (I.ok.hd hc) it a hai its.toArray) he ⟨hit, p⟩ hlt hne (by simp [hne, hae]) fun x' h' tk hP' ho hst' hT hsz hk => ?_
    have ex : x' = u := by
      have : its[i]? = some x' := by simpa using hP'
      rw [hu] at this
      cases this
      rfl
    subst ex
    obtain ⟨hit', _⟩ := hst'
    refine ⟨_, rfl, wpAny_letOwnedTupleGo_enum (s := { s with heap := h', toks := tk + 1 }) ho fun h'' he' sb => ?_⟩
    have hT2 : h''.get? s.heap.objs.size = some { cls := .type "tuple", data := .seq #[.int i tk, x'] } := (sb.2 _ (Nat.ne_of_gt hel)).trans hT
    have new : ObjOk X.prog X.w (upd H s.heap.objs.size (.tup [.int (i : Nat), x])) h'' s.heap.objs.size (.tup [.int (i : Nat), x]) :=
      ⟨by show 2 ≤ sizeLine; decide, [.int i tk, x'], .cons ⟨_, rfl⟩ (.cons ru .nil), ⟨_, hT2, rfl, _, rfl⟩⟩
    have I1 : Inv X pins σ (upd H s.heap.objs.size (.tup [.int (i : Nat), x])) { s with heap := h'', toks := tk + 1 } :=
      I.turnedNew (ch := [e, it]) (fun b ob hb q => (sb.2 b (fun z => hb (by simp [z]))).trans (hk b ob (fun z => hb (by simp [z])) (fun z => hb (by simp [z])) q)) hf (Nat.le_refl _) new
    refine ⟨.ref s.heap.objs.size, _, I1, rfl, ⟨_, x, rfl, I.hok.fresh (Nat.le_refl _), rfl, fun ys hy => by rw [I.tuple_inj hy hq]; exact hx⟩, ⟨⟨x', ?_⟩, hit'.at fun o q => (sb.2 it (Ne.symm hne)).trans q, hne⟩, fun b hb => ?_⟩
    · have e1 : ((i + 1 : Nat) : Int) = (i : Int) + 1 := by omega
      rw [e1]; exact he'
    · have hb' : b < s.heap.objs.size := by
        have e' : b = e ∨ b = it := by simpa using hb
        rcases e' with z | z
        · rw [z]; exact hel
        · rw [z]; exact hil
      rw [upd_ne (Nat.ne_of_lt hb')]
      exact (hf b hb).1
  done := by
    intro X hP hw hK hc i pins s σ H E I hf st hg
    subst hP hw hK
    obtain ⟨⟨old, he⟩, hit, hne⟩ := st
    obtain ⟨xs, hq, hx⟩ := hg
    obtain ⟨its, rv, p, hz⟩ := I.tuple hq
    obtain ⟨f0, f1, f2, f3, f4, f5⟩ := hf it (by simp)
    have hl := rv.length
    have p : s.heap.IsTuple a its.toArray := p
    exact DLEn.endT (I.ok.hd hc) he hit p (by simp; omega) fun h' eb => ⟨rfl, I.turned (t' := s.toks) (fun b o hb q => eb b o hb q) f0 f1 f3 f4 f5⟩
  self := fun A i s Q E st h => let ⟨⟨_, he⟩, _⟩ := st; wpAny_pyIter_enum he h
def iEnum2 (K : PySem.W.Frag) (ta : TA) : TI := fun σ H R => ta σ H fun vs H1 => ∃ a, vs = [.ref a] ∧ (((∃ xs, SqL K H1 a xs) ∧ R (Ite K a) H1) ∨ ((∃ xs, SqT K H1 a xs) ∧ R (IteT K a) H1))
theorem pi_enum2 {X : Cx} {e : Expr} {ta : TA} {p pos tpos : Pos} {elts : List Expr} {kk : Nat} (hg : Gl X "enumerate") (hm : X.mg "enumerate" = none) (ha : PA X [e] ta) (hs : starEach [e] X.env = [(false, eval e X.env)]) :
    PI X (.Tuple elts kk tpos) (.Call (.Name "enumerate" p) [e] [] pos) (iEnum2 X.K ta) := by
  refine ⟨fun pins s σ H R I h => ?_⟩
  refine Call_ (ld_blt I hg hm boot_enumerate (PyProof.Rows.callWith_type1 (thn (ha.run pos pins s σ H _ I h) fun us s1 ⟨vs, H1, I1, r1, q1⟩ => ?_) hs rfl))
  obtain ⟨a, ex, q1⟩ := q1
  subst ex
  obtain rfl := Vals.ref1 r1
  have fp : ∀ b ∈ [s1.heap.objs.size + 1, s1.heap.objs.size], s1.heap.objs.size ≤ b := fun b hb => by
    have e' : b = s1.heap.objs.size + 1 ∨ b = s1.heap.objs.size := by simpa using hb
    omega
  rcases q1 with ⟨⟨xs, hq⟩, q⟩ | ⟨⟨xs, hq⟩, q⟩
  · obtain ⟨its, rv, p', hz⟩ := I1.list hq
    refine call_enumerate_list p'.isList fun h' he hit hsz hk => wpAny_pyIter_enum he ?_
    have I2 : Inv X pins σ H1 { s1 with heap := h' } := I1.kept (t' := s1.toks) hk
    exact ⟨s1.heap.objs.size + 1, [s1.heap.objs.size + 1, s1.heap.objs.size], _, _, H1, rfl, I2, turn_enum a (s1.heap.objs.size + 1) s1.heap.objs.size, ⟨⟨.none, he⟩, hit, Nat.succ_ne_self _⟩, fun b hb => I1.fpOk (fp b hb) (I1.hok.fresh (fp b hb)), q⟩
  · obtain ⟨its, rv, p', hz⟩ := I1.tuple hq
    refine DLEn.callT (show s1.heap.IsTuple a its.toArray from p') fun h' he hit hsz hk => wpAny_pyIter_enum he ?_
    have I2 : Inv X pins σ H1 { s1 with heap := h' } := I1.kept (t' := s1.toks) hk
    exact ⟨s1.heap.objs.size + 1, [s1.heap.objs.size + 1, s1.heap.objs.size], _, _, H1, rfl, I2, turn_enumT a (s1.heap.objs.size + 1) s1.heap.objs.size, ⟨⟨.none, he⟩, hit, Nat.succ_ne_self _⟩, fun b hb => I1.fpOk (fp b hb) (I1.hok.fresh (fp b hb)), q⟩
theorem enum_get {xs : List DV} {i : Nat} (hi : i < xs.length) : (enumL xs)[i]? = some (.tup [.int (i : Int), xs[i]]) := by
  unfold enumL
  rw [List.getElem?_zipWith, List.getElem?_range hi, List.getElem?_eq_getElem hi]
theorem enum_len (xs : List DV) : (enumL xs).length = xs.length := by
  unfold enumL
  rw [List.length_zipWith, List.length_range, Nat.min_self]
theorem ite_ok {K : PySem.W.Frag} {F' : Hp} {v : V} {x : DV} {a : Addr} {xs : List DV} (r : RelD K F' v x) (ev : v = .ref a) : ItR K F' (fun m => look m x = .lst xs) (enumL xs) (Ite K a) := by
  intro Z m H F e w hs i
  obtain ⟨b, vs, h0, h1, h2, _⟩ := w.lst (r.mono e) hs
  rw [ev] at h0
  cases h0
  rw [enum_len]
  refine ⟨fun hi => ?_, fun hi => ⟨vs, SqL.of h1, by rw [h2.length]; exact hi⟩⟩
  obtain ⟨y, hy, ry⟩ := h2.get (List.getElem?_eq_getElem hi)
  refine ⟨⟨vs, y, SqL.of h1, hy⟩, fun x' H1 hy' => ?_⟩
  obtain ⟨T, x2, rfl, hT, rfl, hx⟩ := hy'
  have z := hx vs (SqL.of h1)
  rw [hy] at z
  cases z
  obtain ⟨w', e'⟩ := w.new hT (.tup [.int (i : Nat), y])
  exact ⟨_, _, e', w', enum_get hi, .tup upd_same (.cons (.int _) (.cons (ry.mono e'.sm) .nil)) (by show 2 ≤ LINE; decide)⟩
theorem iteT_ok {K : PySem.W.Frag} {F' : Hp} {v : V} {x : DV} {a : Addr} {xs : List DV} (r : RelD K F' v x) (ev : v = .ref a) : ItR K F' (fun m => look m x = .tup xs) (enumL xs) (IteT K a) := by
  intro Z m H F e w hs i
  obtain ⟨b, vs, h0, _, h1, h2, _⟩ := w.tup (r.mono e) hs
  rw [ev] at h0
  cases h0
  rw [enum_len]
  refine ⟨fun hi => ?_, fun hi => ⟨vs, SqT.of h1, by rw [h2.length]; exact hi⟩⟩
  obtain ⟨y, hy, ry⟩ := h2.get (List.getElem?_eq_getElem hi)
  refine ⟨⟨vs, y, SqT.of h1, hy⟩, fun x' H1 hy' => ?_⟩
  obtain ⟨T, x2, rfl, hT, rfl, hx⟩ := hy'
  have z := hx vs (SqT.of h1)
  rw [hy] at z
  cases z
  obtain ⟨w', e'⟩ := w.new hT (.tup [.int (i : Nat), y])
  exact ⟨_, _, e', w', enum_get hi, .tup upd_same (.cons (.int _) (.cons (ry.mono e'.sm) .nil)) (by show 2 ≤ LINE; decide)⟩
section
variable {X : Cx} {G : Nat → Option Fn} {fld : Nat → Addr × PySem.Str} {W : WX} {a b c : Expr} {ma mb mc : Ex} {pos p tpos : Pos} {tg : Expr} {elts : List Expr} {kk : Nat}
theorem s_enum (hg : Gl X "enumerate") (hm : X.mg "enumerate" = none) (ha : PE X a (tL X.K G fld W ma)) (hs : starEach [a] X.env = [(false, eval a X.env)]) : PI X (.Tuple elts kk tpos) (.Call (.Name "enumerate" p) [a] [] pos) (tLW X.K G fld W (.enum ma)) := by
  refine PIimp (pi_enum2 hg hm (pa_cons ha pa_nil hs) hs) fun σ H R ⟨r, m, Z, F, Qd, Ed, w, sl, hq, post, xp⟩ => ?_
  simp only [rdW] at hq
  refine ⟨r, m, Z, F, _, Ed, w, sl, hq, fun d1 m1 v1 H1 F1 q1 e1 w1 r1 => ?_, xp⟩
  obtain ⟨xs, hx | hx, hk⟩ := q1
  · obtain ⟨l, vs, rfl, hl, rs, hlen⟩ := w1.lst r1 hx
    refine ⟨l, rfl, .inl ⟨⟨vs, SqL.of hl⟩, post _ _ m1 H1 F1 _ hk e1 w1 ((ite_ok r1 rfl).imp fun m h => h.trans hx) (fun _ => by rw [enum_len, ← rs.length]; exact hlen)⟩⟩
  · obtain ⟨l, vs, rfl, _, hl, rs, hlen⟩ := w1.tup r1 hx
    refine ⟨l, rfl, .inr ⟨⟨vs, SqT.of hl⟩, post _ _ m1 H1 F1 _ hk e1 w1 ((iteT_ok r1 rfl).imp fun m h => h.trans hx) (fun _ => by rw [enum_len, ← rs.length]; exact hlen)⟩⟩
theorem s_range3 {j : Nat} {p1 p2 : Pos} (hg : Gl X "range") (hm : X.mg "range" = none) (ha : PE X a (tL X.K G fld W ma)) (hb : PE X b (tL X.K G fld W mb)) (h1 : notStar a = true) (h2 : notStar b = true) :
    PI X tg (.Call (.Name "range" p) [a, b, .UnaryOp .USub (.Constant (.int 1) j p1) p2] [] pos) (tLW X.K G fld W (.range3 ma mb (-1))) := by
  have hc : PE X (.UnaryOp .USub (.Constant (.int 1) j p1) p2) (tL X.K G fld W (.neg (.cst (.int 1)))) := s_neg (s_cst pe_int fun F => .int 1)
  refine PIimp (pi_range3 hg hm (pa_cons ha (pa_cons hb (pa_cons hc pa_nil (star_of rfl)) (star_of h2)) (star_of h1)) (star_of h1) (back_of (by rw [List.all_cons, h2]; rfl))) fun σ H R ⟨r, m, Z, F, Qd, Ed, w, sl, hq, post, xp⟩ => ?_
  simp only [rdW] at hq
  refine ⟨r, m, Z, F, _, Ed, w, sl, hq, fun d1 m1 v1 H1 F1 q1 e1 w1 r1 => ?_, xp⟩
  refine ⟨r, m1, Z, F1, _, Ed, w1, sl.mono e1.sm, q1, fun d2 m2 v2 H2 F2 q2 e2 w2 r2 => ?_, xp.ext e1⟩
  obtain ⟨i, n, rfl, rfl, _, ⟨g1, g2, g3, g4⟩, hk⟩ := q2
  cases r1
  cases r2
  refine ⟨r, m2, Z, F2, (fun d m => d = .int (-1) ∧ m = m2), Ed, w2, sl.mono (e1.trans e2).sm, by simp only [rdE]; exact ⟨1, rfl, rfl, trivial⟩, fun d3 m3 v3 H3 F3 q3 e3 w3 r3 => ?_, xp.ext (e1.trans e2)⟩
  obtain ⟨rfl, rfl⟩ := q3
  cases r3
  exact ⟨i, n, -1, (i - n).toNat, rfl, RgC.neg (by omega) (by omega) (by omega) (by omega), post _ _ m3 H3 F3 _ hk (e1.trans (e2.trans e3)) w3 itc_ok (fun h => by cases h)⟩
theorem s_whw {i : Nat} {x : PySem.Str} {px p1 p2 : Pos} {j : Nat} {body : List Stmt} {mb : Sts} (hp : PassesOwn (model X.prog X.w) X.A X.env X.xe) (hN : X.N.Nodup) (hi : X.N[i]? = some x) (hx : L2.Loc X.env.scope x) (hf : X.fn x = true ∨ X.env.scope.names.lookup x = some .local) (ha : PE X a (tL X.K G fld W ma)) (hb : PSs X body (tLSs X.K G fld W mb)) :
    PS X (.While (.Compare (.NamedExpr (.Name x px) a p1) [.IsNot] [.Constant .none j p2] p) body [] pos) (tLS X.K G fld W (.whw i ma mb)) := by
  refine PSimp (ps_whileW (u := fun D σ H => D.nx σ H) hp (ptw_cmp op_notN (pew_named hN hi hx (pew_of ha) hf) pe_non (nomark _)) hb pss_nil) fun D σ H ⟨r, m, Z, F, Dd, w, sl, hq, ok⟩ => ?_
  simp only [rdS] at hq
  obtain ⟨n0, hq⟩ := hq
  refine ⟨fun n σ' H' => ∃ r' m' F', Ext Z F F' ∧ Wf X.K Z F' H' m' ∧ Slots X.K F' σ' r' ∧ whwW G i ma (fun D' => rdSs G mb D') Dd n r' m', ⟨n0, r, m, F, Ext.refl Z F, w, sl, hq⟩, ?_⟩
  rintro n σ' H' ⟨r', m', F', e', w', s', hW⟩
  cases n with
  | zero => exact hW.elim
  | succ n =>
    simp only [whwW] at hW
    obtain ⟨hlt, hW⟩ := hW
    refine ⟨r', m', Z, F', _, _, w', s', hW, fun d m1 v H1 F1 q1 e1 w1 r1 => ?_, (ok.ext e').xok s'⟩
    have e2 := e'.trans e1
    have okk := ok.ext e2
    have s1 := (s'.mono e1.sm).set i r1
    refine ⟨rfl, _, rfl, ?_⟩
    have en : decide (v = V.non) = isNonD d := by
      by_cases hv : v = .non
      · subst hv
        cases r1
        rfl
      · rw [decide_eq_false hv]
        cases r1 <;> first | rfl | exact absurd rfl hv
    rw [en]
    cases hd : isNonD d with
    | false =>
      rw [hd] at q1
      rw [if_neg (by decide)] at q1
      show (if (!false) = true then _ else _)
      rw [if_pos (show (!false) = true from rfl)]
      refine ⟨fun σ2 H2 => ∃ r2 m2 F2, Ext Z F F2 ∧ Wf X.K Z F2 H2 m2 ∧ Slots X.K F2 σ2 r2 ∧ whwW G i ma (fun D' => rdSs G mb D') Dd n r2 m2, fun σ2 H2 y => ⟨n, Nat.lt_succ_self n, y⟩, _, m1, Z, F1, _, w1, s1, q1, ?_⟩
      exact ⟨fun r3 m3 σ3 H3 F3 q e3 w3 s3 => ⟨r3, m3, F3, e2.trans e3, w3, s3, q⟩, okk.rt, okk.nx, fun r3 m3 σ3 H3 F3 q e3 w3 s3 => ⟨r3, m3, F3, e2.trans e3, w3, s3, q⟩, okk.ex⟩
    | true =>
      rw [hd] at q1
      rw [if_pos rfl] at q1
      show (if (!true) = true then _ else _)
      rw [if_neg (show ¬ (!true) = true by decide)]
      exact ok.nx _ m1 _ H1 F1 q1 e2 w1 s1
end
end DL

set_option Elab.async false
set_option linter.all false
set_option maxRecDepth 100000
set_option maxHeartbeats 4000000
/-! DLM: further methods -/
namespace DL
open PySem L2
theorem toPys_get {xs : List DV} {j : Nat} : (toPys xs)[j]? = xs[j]?.map toPy := by rw [toPys_map, List.getElem?_map]
theorem ints_rel {K : PySem.W.Frag} {F : Hp} : ∀ is : List Int, RelDs K F (is.map V.int) (is.map DV.int)
  | [] => .nil
  | i :: r => .cons (.int i) (ints_rel r)
theorem ints_rel_inv {K : PySem.W.Frag} {F : Hp} : ∀ {is : List Int} {vs : List V}, RelDs K F vs (is.map DV.int) → vs = is.map V.int
  | [], _, .nil => rfl
  | i :: r, _, .cons h t => by
    cases h
    rw [ints_rel_inv t]
    rfl
section
variable {X : Cx} {G : Nat → Option Fn} {fld : Nat → Addr × PySem.Str} {W : WX} {a b c : Expr} {ma mb mc : Ex} {pos p apos : Pos} {k : Nat}
theorem s_index (hr : Room k X.A) (ho : PE X a (tL X.K G fld W ma)) (hb : PE X b (tL X.K G fld W mb)) (hbase : attributeBase a "index" X.env (eval a X.env) = eval a X.env) (hs : starEach [b] X.env = [(false, eval b X.env)]) (hline : (apos.endLine == pos.line) = true) :
    PE X (.Call (.Attribute a "index" apos) [b] [] pos) (tL X.K G fld W (.met .index ma (.cons mb .nil))) := by
  refine PEimp (pe_bm PySem.F.plainAttrs_list PySem.F.slot_list_index PySem.F.type_list_index (mt_indexD (by have := hr.un; omega)) ho (pa_cons hb pa_nil hs) hbase (by rw [hs]; rfl) hline hs (by rfl)) fun σ H Q ⟨r, m, Z, F, Qd, Ed, w, sl, hq, post, xp⟩ => ?_
  simp only [rdE, rdA] at hq
  refine ⟨r, m, Z, F, _, Ed, w, sl, hq, fun d1 m1 v1 H1 F1 q1 e1 w1 r1 => ?_, xp⟩
  obtain ⟨hm, q1⟩ := q1
  cases e : look m1 d1 with
  | lst xs =>
    obtain ⟨l, vs, rfl, hl, _⟩ := w1.lst r1 e
    refine ⟨.inl ⟨rfl, vs, SqL.of hl⟩, ?_⟩
    refine ⟨r, m1, Z, F1, _, Ed, w1, sl.mono e1.sm, q1, fun d2 m2 v2 H2 F2 q2 e2 w2 r2 => ?_, xp.ext e1⟩
    replace q2 : indexD _ _ _ _ := q2
    unfold indexD at q2
    split at q2
    · rename_i xs2 y ex ey
      cases ey
      obtain ⟨⟨p1, p2, g1, g2⟩, j, hj, hk⟩ := q2
      have p2' : plain (look m2 d1) = true := by rw [ex]; simpa [plain] using p2
      obtain ⟨a1, c1⟩ := w2.dp r2 p1
      obtain ⟨a2, c2⟩ := w2.dp (r1.mono e2.sm) p2'
      rw [ex] at a2 c2 p2'
      rw [List.findIdx?_eq_some_iff_getElem] at hj
      obtain ⟨hlt, hz, hno⟩ := hj
      refine ⟨l, v2, toPy (look m2 d2), toPys xs2, j, toPy xs2[j], rfl, rfl, by simpa only [toPy] using a2, a1, by have := shaped_of c2 p2' (by simp only [depth]; omega); simpa only [toPy] using this, shaped_of c1 p1 g1, by rw [toPys_get, List.getElem?_eq_getElem hlt]; rfl, ?_, fun i z' hi hz' => ?_, post _ m2 _ H2 F2 hk (e1.trans e2) w2 (.int _)⟩
      · rw [eqv_py _ _ (plains_mem p2 _ (List.getElem_mem hlt)) p1]
        exact hz
      · have hi' : i < xs2.length := by omega
        rw [toPys_get, List.getElem?_eq_getElem hi'] at hz'
        cases hz'
        rw [eqv_py _ _ (plains_mem p2 _ (List.getElem_mem hi')) p1]
        simpa using hno i hi
    · exact q2.elim
  | _ => rw [e] at hm; cases hm
theorem s_remove (hcalm : X.calm = true) (tk : Takes X W) (ho : PE X a (tL X.K G fld W ma)) (hb : PE X b (tL X.K G fld W mb)) (hbase : attributeBase a "remove" X.env (eval a X.env) = eval a X.env) (hs : starEach [b] X.env = [(false, eval b X.env)]) (hline : (apos.endLine == pos.line) = true) :
    PE X (.Call (.Attribute a "remove" apos) [b] [] pos) (tL X.K G fld W (.met .remove ma (.cons mb .nil))) := by
  refine PEimp (pe_remX (W := W) hcalm tk ho hb hbase (by rw [hs]; rfl) hline hs (by rfl)) fun σ H Q ⟨r, m, Z, F, Qd, Ed, w, sl, hq, post, xp⟩ => ?_
  simp only [rdE, rdA] at hq
  refine ⟨r, m, Z, F, _, Ed, w, sl, hq, fun d1 m1 v1 H1 F1 q1 e1 w1 r1 => ?_, xp⟩
  obtain ⟨hm, q1⟩ := q1
  cases e : look m1 d1 with
  | lst xs =>
    obtain ⟨l, vs, rfl, hl, _⟩ := w1.lst r1 e
    refine ⟨.inl ⟨rfl, vs, SqL.of hl⟩, ?_⟩
    refine ⟨r, m1, Z, F1, _, Ed, w1, sl.mono e1.sm, q1, fun d2 m2 v2 H2 F2 q2 e2 w2 r2 => ?_, xp.ext e1⟩
    replace q2 : removeD _ _ _ _ := q2
    unfold removeD at q2
    split at q2
    · rename_i l' i ei
      cases ei
      obtain ⟨is, hx, hi, hk⟩ := q2
      cases r1
      cases r2
      obtain ⟨hf, hz, us, h1, h2, h3⟩ := w2.ob _ _ hx
      have eu := ints_rel_inv h2
      subst eu
      refine ⟨_, is, i, rfl, rfl, h1, fun _ => ?_, fun h => absurd hi h⟩
      refine post _ _ _ _ F2 hk (e1.trans e2) (w2.set hx ⟨_, upd_same, ints_rel _, ?_⟩) .non
      rw [List.length_map] at h3 ⊢
      exact Nat.le_trans (List.length_erase_le) h3
    · exact q2.elim
  | _ => rw [e] at hm; cases hm
end
end DL

set_option Elab.async false
set_option linter.all false
set_option maxRecDepth 100000
set_option maxHeartbeats 4000000
namespace DL
open PySem L2
/-- where one stands, and the text's side of it -/
structure Ok (X : Cx) (c : Cfg) (G : Nat → Option Fn) (fld : Nat → Addr × PySem.Str) (k : Nat) (sc : Scope) (fb : PySem.Str → Bool) : Prop where
  g : Gk X c G fld k
  sc : X.env.scope = sc
  fb : ∀ x, fb x = true → X.fn x = true
  gls : ∀ x d, c.gls.lookup x = some d → ∃ v u, X.mg x = some u ∧ RelV v u ∧ ∀ F, RelD X.K F v d
section
variable {c : Cfg} {G : Nat → Option Fn} {fld : Nat → Addr × PySem.Str} {k : Nat} {X : Cx} {sc : Scope} {fb : PySem.Str → Bool}
theorem Ok.blk (o : Ok X c G fld k sc fb) (s : Shared) (H : Hp) (scope : Scope) (C : Addr) (cl : List (PySem.Str × Addr)) (fp : List Addr) :
    Ok (X.blk s H scope (compEnvC scope cl C X.env) fp) c G fld k (relS scope sc) (fun x => scope.names.lookup x == some .cell) :=
  ⟨⟨o.g.N, o.g.nd, o.g.calm, o.g.room1, fun f x g h1 h2 => ⟨(o.g.fns f x g h1 h2).ex⟩, o.g.blt, o.g.mts, o.g.exs, o.g.exm, o.g.efl⟩, by rw [← o.sc]; rfl, fun x h => h, o.gls⟩
theorem Ok.gl (o : Ok X c G fld k sc fb) {x : PySem.Str} (h : glob sc x = true) : Gl X x := by
  unfold glob at h
  show X.env.scope.names.lookup x = some .globalImplicit
  rw [o.sc]
  split at h
  · assumption
  · cases h
theorem Ok.vis (o : Ok X c G fld k sc fb) {x : PySem.Str} (h : vis sc x = true) : Vis X.env.scope x := by
  unfold DL.vis at h
  unfold Vis
  rw [o.sc]
  split at h
  · exact .inl (by assumption)
  · exact .inr (.inl (by assumption))
  · exact .inr (.inr (by assumption))
  · cases h
theorem Ok.loc (o : Ok X c G fld k sc fb) {x : PySem.Str} (h : loc sc x = true) : Loc X.env.scope x := by
  unfold DL.loc at h
  unfold L2.Loc
  rw [o.sc]
  split at h
  · exact .inl (by assumption)
  · exact .inr (by assumption)
  · cases h
theorem Ok.isLocal (o : Ok X c G fld k sc fb) {x : PySem.Str} (h : isLocal sc x = true) : X.env.scope.names.lookup x = some .local := by
  unfold DL.isLocal at h
  rw [o.sc]
  split at h
  · assumption
  · cases h
theorem Ok.at_ (o : Ok X c G fld k sc fb) {i : Nat} {x : PySem.Str} (h : c.N[i]? = some x) : X.N[i]? = some x := by rw [o.g.N]; exact h
theorem okName_of {x : PySem.Str} (h : okName x = true) : (x == ("__debug__" : PySem.Str)) = false ∧ (x == ("__classdict__" : PySem.Str)) = false ∧ x ≠ "__name__" := by
  unfold okName at h
  simp only [Bool.and_eq_true, Bool.not_eq_true'] at h
  refine ⟨h.1.1, h.1.2, fun e => ?_⟩
  subst e
  simp at h
theorem blt_mem (b : Blt) : bltName b ∈ bltNames := by cases b <;> decide +kernel
theorem kind_mem (k : Kind) (h : kPlain k = true) : kStr k ∈ bltNames := by cases k <;> first | (cases h; done) | decide +kernel
theorem cst_rel {d : DV} {K : PySem.W.Frag} : ∀ {d' : DV} {v : V}, cstEq d d' = true → (∀ F, RelD K F v d') → ∀ F, RelD K F v d := by
  intro d' v h r F
  have e : d = d' := by
    cases d <;> cases d' <;> simp_all [cstEq]
  rw [e]
  exact r F
theorem str_rel {x : PySem.Str} {d : DV} {K : PySem.W.Frag} (h : cstEq d (.str x.cps.toList) = true) (F : Hp) : RelD K F (.str x) d := by
  cases d <;> simp [cstEq] at h
  rename_i s
  obtain ⟨e, h2⟩ := h
  rw [e] at h2 ⊢
  refine .str x fun q hq => ?_
  unfold okSigns at h2
  have := List.all_eq_true.mp h2 q hq
  simpa using this
theorem snd_cst (o : Ok X c G fld k sc fb) {W : WX} {d : DV} {e : Expr} (h : chkC c sc d e = true) : PE X e (tL X.K G fld W (.cst d)) := by
  unfold chkC at h
  split at h
  · exact s_cst pe_non (cst_rel h fun F => .non)
  · exact s_cst pe_bl (cst_rel h fun F => .bl _)
  · exact s_cst pe_int (cst_rel h fun F => .int _)
  · exact s_cst pe_str fun F => str_rel h F
  · simp only [Bool.and_eq_true] at h
    obtain ⟨⟨h1, h2⟩, h3⟩ := h
    split at h3
    · rename_i v e
      obtain ⟨w, u, hm, r, rd⟩ := o.gls _ _ e
      exact s_cst (pe_glob (o.gl h1) hm r (okName_of h2).1) (cst_rel h3 rd)
    · cases h3
  · cases h
theorem asg_of {e : Expr} {es : List Expr} {env : PySem.Env} (h : notStar e = true) : assignEach (e :: es) env = (false, assign e env) :: assignEach es env := by
  cases e <;> first | (cases h; done) | rfl
theorem pat_star : ∀ {p : Pat} {e : Expr}, chkP c sc fb p e = true → notStar e = true := by
  intro p e h
  cases e <;> first | rfl | (cases p <;> simp [chkP] at h)
theorem snd_pat (o : Ok X c G fld k sc fb) : ∀ (p : Pat) {e : Expr}, chkP c sc fb p e = true → PG X e (gP X.K p)
  | .name i, e, h => by
    unfold chkP at h
    split at h
    · simp only [Bool.and_eq_true, decide_eq_true_eq, Bool.or_eq_true] at h
      obtain ⟨⟨h1, h2⟩, h3⟩ := h
      rename_i e1
      cases e1
      refine pg_name o.g.nd (o.at_ h1) (o.loc h2) ?_
      rcases h3 with z | z
      · exact .inl (o.fb _ z)
      · exact .inr (o.isLocal z)
    · rename_i e1
      cases e1
    · cases h
  | .pair a b, e, h => by
    unfold chkP at h
    split at h
    · rename_i e1
      cases e1
    · rename_i e1
      cases e1
      simp only [Bool.and_eq_true] at h
      have sa := pat_star h.1
      have sb := pat_star h.2
      refine pg_tup o.g.calm (pgs_cons (snd_pat o a h.1) (pgs_cons (snd_pat o b h.2) pgs_nil ?_) ?_) ?_ ?_
      · rw [asg_of sb]; rfl
      · rw [asg_of sa]; rfl
      · rw [asg_of sa, asg_of sb]; rfl
      · rw [asg_of sa, asg_of sb]; rfl
    · cases h
theorem n_list {a : Expr} {ma : Ex} {W : WX} {p pos : Pos} (o : Ok X c G fld k sc fb) (hgl : Gl X "list") (ha : PE X a (tL X.K G fld W ma)) (hs : notStar a = true) : PE X (.Call (.Name "list" p) [a] [] pos) (tN X.K G fld W (.blt .list (.cons ma .nil))) := by
  refine PEimp (pe_callTy call_list_of hgl (o.g.blt "list" (by decide +kernel)) (by decide +kernel) (pa_cons ha pa_nil (star_of hs)) (by decide +kernel) (by decide +kernel) (star_of hs) (by rfl)) fun σ H Q ⟨r, m, Z, F, Qd, Ed, w, sl, hq, post, xp⟩ => ?_
  simp only [rdE, rdA] at hq
  refine ⟨r, m, Z, F, _, Ed, w, sl, hq, fun d1 m1 v1 H1 F1 q1 e1 w1 r1 => ?_, xp⟩
  exact call_list_new w1 (.cons r1 .nil) q1 fun d v H' hk w' fr => post d m1 v H' F1 hk e1 w' fr
theorem s_ex {a : Expr} {ma : Ex} {W : WX} (ha : PE X a (tL X.K G fld W ma)) (hp : plainT a = true) : PT X a (tLT X.K G fld W (.ex ma)) := by
  refine PTimp (pt_truth ha (plainT_of hp)) fun σ H Q ⟨r, m, Z, F, Qd, Ed, w, sl, hq, post, xp⟩ => ?_
  simp only [rdT] at hq
  refine ⟨r, m, Z, F, _, Ed, w, sl, hq, fun d1 m1 v1 H1 F1 q1 e1 w1 r1 => ?_, xp⟩
  obtain ⟨b, hb, hk⟩ := q1
  exact ⟨b, tru_ok w1 r1 hb, post b m1 b H1 F1 hk e1 w1 rfl⟩
theorem s_cmp2T {a b d : Expr} {ma mb md : Ex} {W : WX} {op op' : COp} {pos : Pos} (hr : Room k X.A) (ha : PE X a (tL X.K G fld W ma)) (hb : PE X b (tL X.K G fld W mb)) (hc : PE X d (tL X.K G fld W md)) (hm : lastMarks [copP op, copP op'] [b, d] = false) :
    PT X (.Compare a [copP op, copP op'] [b, d] pos) (tLT X.K G fld W (.ex (.cmp2 op op' ma mb md))) := by
  refine PTimp (pt_chain (op_cmp hr op) (op_cmp hr op') ha hb hc hm) fun σ H Q ⟨r, m, Z, F, Qd, Ed, w, sl, hq, post, xp⟩ => ?_
  simp only [rdT, rdE] at hq
  refine ⟨r, m, Z, F, _, Ed, w, sl, hq, fun d1 m1 v1 H1 F1 q1 e1 w1 r1 => ?_, xp⟩
  refine ⟨r, m1, Z, F1, _, Ed, w1, sl.mono e1.sm, q1, fun d2 m2 v2 H2 F2 q2 e2 w2 r2 => ?_, xp.ext e1⟩
  refine cmp_ok w2 (r1.mono e2.sm) r2 q2 fun b hk => ?_
  obtain ⟨c, hc, hk⟩ := hk
  cases hc
  refine ⟨b, rfl, ?_⟩
  cases b with
  | false =>
    rw [if_neg (by decide)] at hk
    obtain ⟨q, hq, hk⟩ := hk
    cases hq
    exact ⟨false, rfl, post _ m2 _ H2 F2 hk (e1.trans e2) w2 rfl⟩
  | true =>
    rw [if_pos rfl] at hk
    refine ⟨r, m2, Z, F2, _, Ed, w2, sl.mono (e1.trans e2).sm, hk, fun d3 m3 v3 H3 F3 q3 e3 w3 r3 => ?_, xp.ext (e1.trans e2)⟩
    refine cmp_ok w3 (r2.mono e3.sm) r3 q3 fun b hk => ?_
    obtain ⟨q, hq, hk⟩ := hk
    cases hq
    exact ⟨b, rfl, post b m3 b H3 F3 hk (e1.trans (e2.trans e3)) w3 rfl⟩
/-- a comprehension, by its parts -/
theorem comp_parts {p : Pat} {vs : List Nat} {it : It} {t : Ts} {a : Ex} {W : WX} {elt tg iter : Expr} {ifs : List Expr} {scope : Scope} {pos : Pos} (o : Ok X c G fld k sc fb)
    (hset : notSet iter = true) (hblk : blkC c.N sc scope (ownOf c.N vs) = true) (hvs : (ownOf c.N vs).map (·.2) = vs) (hps : (pslots p).all (fun i => decide (i ∈ vs)) = true)
    (hW : PI X tg iter (tLW X.K G fld W it)) (hP : chkP c (relS scope sc) (fun x => scope.names.lookup x == some .cell) p tg = true)
    (hT : ∀ X' : Cx, X'.K = X.K → Ok X' c G fld k (relS scope sc) (fun x => scope.names.lookup x == some .cell) → PTs X' ifs (tLT X'.K G fld (fun _ _ _ _ => False) t))
    (hE : ∀ X' : Cx, X'.K = X.K → Ok X' c G fld k (relS scope sc) (fun x => scope.names.lookup x == some .cell) → PE X' elt (tL X'.K G fld (fun _ _ _ _ => False) a)) :
    (∀ σ H Q, tN X.K G fld W (.comp p vs it t a) σ H Q → tLc (tLW X.K G fld W it) (gP X.K p) (tLT X.K G fld (fun _ _ _ _ => False) t) (tL X.K G fld (fun _ _ _ _ => False) a) ((ownOf c.N vs).map (·.2)) σ H Q) ∧
      PE X (.ListComp elt [⟨tg, iter, ifs, 0⟩] scope pos) (tN X.K G fld W (.comp p vs it t a)) := by
  have blk : BlkOk X.N X.env.scope scope (ownOf c.N vs) := by rw [o.g.N, o.sc]; exact blkOk_by hblk
  have pg := fun (s : Shared) (H : Hp) (C : Addr) (cl : List (PySem.Str × Addr)) (fp : List Addr) => snd_pat (o.blk s H scope C cl fp) p hP
  have pt := fun (s : Shared) (H : Hp) (C : Addr) (cl : List (PySem.Str × Addr)) (fp : List Addr) => hT (X.blk s H scope (compEnvC scope cl C X.env) fp) rfl (o.blk s H scope C cl fp)
  have pe := fun (s : Shared) (H : Hp) (C : Addr) (cl : List (PySem.Str × Addr)) (fp : List Addr) => hE (X.blk s H scope (compEnvC scope cl C X.env) fp) rfl (o.blk s H scope C cl fp)
  have key := n_comp (W := W) o.g.calm o.g.nd hW blk hvs (fun i hi => by simpa using List.all_eq_true.mp hps i hi) pg pt pe (folded_of hset)
  exact ⟨key, PEimp (pe_lc o.g.calm o.g.nd hW blk pg pt pe (folded_of hset)) key⟩
end
end DL

set_option Elab.async false
set_option linter.all false
set_option maxRecDepth 100000
set_option maxHeartbeats 2000000
/-! DLX1: own errors: made and raised -/
namespace DL
open PySem L2
section
variable {X : Cx} {e : Expr} {es : List Expr} {ta : TA} {p1 p2 pos : Pos}
/-- F.__init__(self, ..), F an own class over ValueError without an __init__ -/
theorem pe_feinit {pl : Sem Bool} {x : PySem.Str} {CF : Addr} {mc : Value} (hg : Gl X x) (hm : X.mg x = some (.ref CF)) (r : ClX.CRead X.K CF mc) (vV : PySem.W.findCls X.K (.ref CF) mc "__init__" = some (.val (.builtin "ValueError.__init__"))) (ha : PA X (e :: es) ta)
    (hd : (x == ("__debug__" : PySem.Str)) = false)
    (hc : eval (.Call (.Attribute (.Name x p1) "__init__" p2) (e :: es) [] pos) X.env = (do
      let ov ← eval (.Name x p1) X.env
      standAt p2.atName
      let (f, first) ← holding [ov] (getMethod ov "__init__" pl)
      callWith pos f first (backTo pos (starEach (e :: es) X.env)) (backToKw pos (keywordEach [] X.env))))
    (he : starEach (e :: es) X.env = (false, eval e X.env) :: starEach es X.env) (hpl : (backTo pos (starEach es X.env)).any (·.1) = false) :
    PE X (.Call (.Attribute (.Name x p1) "__init__" p2) (e :: es) [] pos) (tVeI X.K ta) := by
  refine ⟨fun pins s σ H Q I h => ?_⟩
  refine PySem.W.methodCall_KW (ld_glob I hg hm ?_ hd) hc
  refine PySem.W.method_cls I.kIn r.ga (PySem.W.cls_value I.kIn r.rd vV (by decide +kernel) ?_)
  show wpAny _ _ (callWith pos (Value.builtin "ValueError.__init__") [] (backTo pos (starEach (e :: es) X.env)) []) _ _ _
  refine PyProof.Rows.callWith_method1 (thn (ha.run pos pins _ σ H _ (I.tok _) h) fun us s1 ⟨vs, H1, I1, r1, a, C, ws, ev, hl, T, ea, q⟩ => ?_) he hpl
  subst ev
  cases r1 with
  | @cons _ u0 _ ur ra rw' =>
    obtain rfl : u0 = Value.ref a := ra
    have hlen : ur.length ≤ sizeLine := by
      rw [← Paired.length rw', sizeLine_eq]
      omega
    exact oinit_ok T I1 ea hlen fun s' J => ⟨.non, H1, J, rfl, q⟩
end
/-- the text of such an __init__: base, field, parameter -/
def chkXI (b f y : PySem.Str) : List Stmt → Bool
  | [.Expr (.Call (.Attribute (.Name x _) i p2) [.Name s1 _, .Constant (.str _) _ _] [] pos) _, .Assign [.Attribute (.Name s2 _) g _] (.Name z _) _] =>
    decide (x = b) && decide (i = "__init__") && decide (s1 = "self") && decide (s2 = "self") && decide (g = f) && decide (z = y) && (p2.endLine == pos.line)
  | _ => false
theorem chkXI_inv {b f y : PySem.Str} : ∀ {l : List Stmt}, chkXI b f y l = true → ∃ p1 p2 p3 t j p4 pos p5 q1 q2 q3 q4, l = [.Expr (.Call (.Attribute (.Name b p1) "__init__" p2) [.Name "self" p3, .Constant (.str t) j p4] [] pos) p5, .Assign [.Attribute (.Name "self" q1) f q2] (.Name y q3) q4] ∧ (p2.endLine == pos.line) = true := by
  intro l h
  unfold chkXI at h
  split at h
  · simp only [Bool.and_eq_true, decide_eq_true_eq] at h
    obtain ⟨⟨⟨⟨⟨⟨rfl, rfl⟩, rfl⟩, rfl⟩, rfl⟩, rfl⟩, h⟩ := h
    exact ⟨_, _, _, _, _, _, _, _, _, _, _, _, rfl, h⟩
  · cases h
/-- a method call that stands on one line -/
theorem call_line {o : Expr} {m : PySem.Str} {apos pos : Pos} {es : List Expr} {kws : List Keyword} {env : PySem.Env} (hb : attributeBase o m env (eval o env) = eval o env) (hf : methodCallForm (es.length + kws.length) (backTo pos (starEach es env)) (backToKw pos (keywordEach kws env)) = true)
    (hl : (apos.endLine == pos.line) = true) : eval (.Call (.Attribute o m apos) es kws pos) env = (do
      let ov ← eval o env
      standAt apos.atName
      let (f, first) ← holding [ov] (getMethod ov m (plainOf o env))
      callWith pos f first (backTo pos (starEach es env)) (backToKw pos (keywordEach kws env))) := by
  have e : eval (.Call (.Attribute o m apos) es kws pos) env = (do
      let ov ← attributeBase o m env (eval o env)
      standAt apos.atName
      methodCall o m apos pos env ov (es.length + kws.length) (backTo pos (starEach es env)) (backToKw pos (keywordEach kws env))) := by rfl
  rw [e, hb]
  congr 1
  funext ov
  congr 1
  funext _
  exact mcall_line hf hl
section
variable {P : Program} {w : World} {K : PySem.W.Frag} {mg : PySem.Str → Option Value} {base : Heap} {x qual b f y : PySem.Str} {st : Stmt} {fI CF : Addr} {fd : FuncData} {mc : Value}
/-- such an __init__ keeps its promise -/
theorem xi_ok (F : Fun K x qual st fI fd) (S : FnScope ["self", y] ["self", y] (defScope st)) (hc : chkXI b f y (defBody st) = true) (hgl : glob (defScope st) b = true)
    (hd : (b == ("__debug__" : PySem.Str)) = false) (hy : (y == ("__debug__" : PySem.Str)) = false) (hy2 : (y == ("__classdict__" : PySem.Str)) = false) (hm : mg b = some (.ref CF)) (r : ClX.CRead K CF mc)
    (vV : PySem.W.findCls K (.ref CF) mc "__init__" = some (.val (.builtin "ValueError.__init__"))) : FnOk P w K mg base (L2.CX P w) 1 fI fd ["self", y] (spXI K f) := by
  refine F.okX S (fun vs H Q E h => ?_) (fun cdv A outer s H vs Q E hr h => ?_)
  · obtain ⟨a, C, v, rfl, _⟩ := h
    rfl
  · obtain ⟨p1, p2, p3, t, j, p4, pos, p5, q1, q2, q3, q4, hbody, hline⟩ := chkXI_inv hc
    rw [hbody]
    have hG : Gl (cxOf (L2.CX P w) P w K mg base ["self", y] qual (defScope st) fI cdv A outer s H E) b := by
      unfold glob at hgl
      show (defScope st).names.lookup b = some .globalImplicit
      split at hgl
      · assumption
      · cases hgl
    have v0 : Vis (defScope st) "self" := by
      rcases S.par "self" (by simp) with h | h
      · exact .inl h
      · exact .inr (.inl h)
    have v1 : Vis (defScope st) y := by
      rcases S.par y (by simp) with h | h
      · exact .inl h
      · exact .inr (.inl h)
    refine ⟨_, pss_cons (ps_expr (pe_feinit hG hm r vV (pa_cons (pv 0 rfl v0) (pa_cons pe_str pa_nil)) hd (call_line (base_of rfl) (by rfl) hline) (by rfl) (by rfl)) (swaps_of rfl)) (pss_one (ps_ost (pv 0 rfl v0) (pv 1 rfl v1 hy hy2) (swaps_of rfl))), ?_⟩
    obtain ⟨a, C, v, rfl, hT, hno, ha, hq⟩ := h
    refine ⟨.ref a, rfl, a, C, [.str t], rfl, by show 1 ≤ 1000; decide, hT, ha, ?_⟩
    exact ⟨v, rfl, .ref a, rfl, a, C, rfl, hT, hno, .inl ⟨ha, hq⟩⟩
end
end DL

set_option Elab.async false
set_option linter.all false
set_option maxRecDepth 100000
set_option maxHeartbeats 2000000
/-! DLX2: raise -/
namespace DL
open PySem L2
section
variable {X : Cx} {G : Nat → Option Fn} {fld : Nat → Addr × PySem.Str} {W : WX} {a : Expr} {ma : Ex} {pos pos' p : Pos} {k c : Nat} {x : PySem.Str}
theorem s_rse (E : ErrT X.prog X.w X.K X.mg X.base fld x c) (hg : Gl X x) (hr : Room 2 X.A) (hcalm : X.calm = true) (tk : Takes X W) (ha : PE X a (tL X.K G fld W ma)) (hs : notStar a = true) (hdb : (x == ("__debug__" : PySem.Str)) = false) :
    PS X (.Raise (some (.Call (.Name x p) [a] [] pos)) none pos') (tLS X.K G fld W (.rse c ma)) := by
  obtain ⟨fI, fd, y, iC, tI, F1, hb⟩ := E.ex
  refine PSimp (ps_raise hcalm tk (pmk_oex (dvs := []) (ds := []) E.T iC tI F1 hr hb .nil passL hg E.gl (pa_cons ha pa_nil (star_of hs)) hdb (star_of hs) (by rfl))) fun D σ H ⟨r, m, Z, F, Dd, w, sl, hq, ok⟩ => ?_
  simp only [rdS] at hq
  refine ⟨r, m, Z, F, _, _, w, sl, hq, fun d m1 v H1 F1 q1 e1 w1 r1 => ?_, ok.xok sl⟩
  refine ⟨by show 1 ≤ 1000; decide, fun a0 ha0 => ⟨a0, (fld c).1, v, rfl, E.T, E.no, upd_same, fun dx hdx hne => ⟨rfl, dx, _, upd_same, by rw [upd_ne hne]; exact upd_same, ?_, ?_⟩⟩⟩
  · rw [upd_ne hne] at hdx
    exact hdx
  · rw [upd_ne hne] at hdx
    have e : upd (del (upd (upd (upd H1 a0 (exo a0 (fld c).1 none)) dx (exd dx [((fld c).2, v)])) a0 (exo a0 (fld c).1 (some dx))) a0) dx (.xd [((fld c).2, v)]) = upd H1 dx (.xd [((fld c).2, v)]) := by
      funext b
      by_cases hb : b = dx
      · subst hb
        rw [upd_same, upd_same]
      · rw [upd_ne hb, upd_ne hb]
        by_cases hb2 : b = a0
        · subst hb2
          rw [del_same]
          exact ha0.symm
        · rw [del_ne hb2, upd_ne hb2, upd_ne hb, upd_ne hb2]
    rw [e]
    exact ok.ex ⟨c, d⟩ r m1 σ _ F1 _ _ q1 e1 (w1.beside hdx _) (sl.mono e1.sm) ⟨rfl, dx, v, rfl, upd_same, sub_none w1.sf hdx, sub_none w1.sz hdx, w1.m_none hdx, r1⟩
end
end DL

set_option Elab.async false
set_option linter.all false
set_option maxRecDepth 100000
set_option maxHeartbeats 4000000
/-! DLY: try with several clauses that name the error -/
namespace DL
open PySem PySem.Spec PyProof.Rows L2
abbrev HdR := Value × Nat × (Addr → Value → Option Addr → TS)
/-- behind a clause its name is gone -/
def goneD (i : Nat) (D : L2.Ends) : L2.Ends := { nx := fun σ H => D.nx (σ.set i none) H, rt := D.rt, bk := fun σ H => D.bk (σ.set i none) H, ct := fun σ H => D.ct (σ.set i none) H }
def wHds (K : PySem.W.Frag) (Wo : WX) (D : L2.Ends) : List HdR → WX
  | [] => Wo
  | (c, i, ts) :: r => fun cls d σ H => ∃ b, PySem.W.exmOne K cls c = some b ∧ (b = true → ∀ a, H a = none → ts a cls d (goneD i D) (σ.set i (some (.ref a))) H) ∧ (b = false → wHds K Wo D r cls d σ H)
inductive HdOk (X : Cx) : List ExceptHandler → List HdR → Prop
  | nil : HdOk X [] []
  | cons {x n : PySem.Str} {c : Value} {i : Nat} {ts : Addr → Value → Option Addr → TS} {s₀ : Stmt} {su : List Stmt} {np ps : Pos} {hs : List ExceptHandler} {l : List HdR} (hi : X.N[i]? = some n) (hl : X.env.kindOf n = some .local) (hc : Names X x c)
      (run : ∀ (a : Addr) (oe : Obj) (cls : Value) (d : Option Addr) (pn : List (Addr × Obj)), Zc cls d oe → (∃ vs, oe.data = .fields vs) → PSs (X.suite a ((a, oe) :: pn)) (s₀ :: su) (ts a cls d)) (r : HdOk X hs l) :
      HdOk X (.ExceptHandler (some (.Name x np)) (some n) (s₀ :: su) ps :: hs) ((c, i, ts) :: l)
section
variable {X : Cx} {body : List Stmt} {h₀ : ExceptHandler} {hs : List ExceptHandler} {l : List HdR} {pos : Pos} {tb : WX → TS} {Wo : WX}
theorem ps_try_hds (est : X.stack = X.env :: X.outer) (efr : X.env.frame = some X.env.locals) (nd : X.N.Nodup) (tk : Takes X Wo)
    (hb : ∀ (W : WX) (pn : List (Addr × Obj)) (xe : Value → Shared → Prop), Takes (X.tr pn xe) W → PassesOwn (model X.prog X.w) X.A X.env xe → PSs (X.tr pn xe) body (tb W))
    (hk : HdOk X (h₀ :: hs) l) : PS X (.Try body (h₀ :: hs) [] [] pos) (fun D σ H => tb (wHds X.K Wo D l) D σ H) := by
  refine ⟨fun pins s σ H D I h => ?_⟩
  have ok := I.ok
  have frm : X.A.frames = some (X.env :: X.outer) := by rw [ok.frames, est]
  refine wpAny_Try_except ?_
  obtain ⟨xe, hxe⟩ : ∃ xe : Value → Shared → Prop, xe = fun e s₁ => wpAny (model X.prog X.w) X.A (noteFrame e X.env) (fun _ s₂ => wpAny (model X.prog X.w) X.A (setFlight e none) (fun _ s₃ => wpAny (model X.prog X.w) X.A (handleBy e X.env (h₀ :: hs)) (SP X pins D) X.xe s₃) X.xe s₂) X.xe s₁ := ⟨_, rfl⟩
  have hown : PassesOwn (model X.prog X.w) X.A X.env xe := by rw [hxe]; exact PassesOwn.looking
  have htk : Takes (X.tr (X.pn ++ pins) xe) (wHds X.K Wo D l) := by
    intro u s' flying
    show xe u s'
    rw [hxe]
    obtain ⟨a, B, sI, pins', σ', H', cls, d, rfl, J', nb, up, sky, na, eos, ag, wish⟩ := flying
    have J : Inv X pins σ' H' sI := J'.ofTry ok
    have sky1 : Sky B (X.env :: X.outer) a (Zc cls d) X.env.locals s'.heap := by rw [← est]; exact sky
    show wpAny (model X.prog X.w) X.A (noteFrame (.ref a) X.env) _ _ _
    refine Sky.land Zc.steady frm efr sky1 fun h3 fl3 up3 => ?_
    obtain ⟨oe3, vs3, at3, z3, d3⟩ := fl3.there
    have J3 : Inv X pins σ' H' { s' with heap := h3 } := J.landed nb fl3.1 (up.trans up3) eos ag
    have nfr : a ∉ frs (X.env :: X.outer) := fun hm => by
      obtain ⟨_, o', e', nf⟩ := fl3.2.2.1.mem hm
      rw [at3] at e'
      cases e'
      exact nf _ d3
    have nL : a ≠ X.env.locals := fun z => nfr (List.mem_filterMap.mpr ⟨X.env, List.mem_cons_self, by rw [efr, z]⟩)
    have nF : a ∉ X.fs := fun hm => by
      obtain ⟨e, he, q⟩ := List.mem_filterMap.mp hm
      exact nfr (List.mem_filterMap.mpr ⟨e, List.mem_cons_of_mem _ he, q⟩)
    have S3 := J3.suite at3 d3 na nL nF
    have go : ∀ {hs' : List ExceptHandler} {l' : List HdR}, HdOk X hs' l' → wHds X.K Wo D l' cls d σ' H' → wpAny (model X.prog X.w) X.A (handleBy (.ref a) X.env hs') (SP X pins D) X.xe { s' with heap := h3 } := by
      intro hs' l' hk'
      induction hk' with
      | nil =>
        intro wish
        refine wpAny_handleBy_nil ?_
        obtain ⟨_, _, _, oe, vs, T, oT, ts', he, hz, hd, h1, hr⟩ := id fl3
        unfold PySem.passOn
        refine wpAny_bind (wpAny_field he hd h1 ?_)
        rw [if_neg (show ¬ ((Value.ref T == Value.none) = true) from by simp)]
        have last : wpAny (model X.prog X.w) X.A (setFlight (.ref a) X.env.frame) (fun _ s4 => wpAny (model X.prog X.w) X.A (throw (.ref a) : Sem Flow) (SP X pins D) X.xe s4) X.xe { s' with heap := h3 } := by
          rw [efr]
          refine HandSPX.setFlight_upZ fl3 fun h4 hh4 up4 => wpAny_throw (tk _ _ ?_)
          exact ⟨a, B, sI, pins, σ', H', cls, d, rfl, J, nb, (up.trans up3).trans up4, .inr (.inr (by rw [est]; exact hh4)), na, eos, ag, wish⟩
        first
          | exact wpAny_bind (wpAny_pure (wpAny_bind last))
          | exact wpAny_bind last
      | @cons x n c i ts s₀ su np ps hs2 l2 hi hl hc run r ih =>
        intro wish
        obtain ⟨b, hb1, yes, no⟩ := wish
        refine wpAny_handleBy_cons (codeAny_handlers_test ?_) (by intro q; cases q)
        have LT : PySem.W.Looks (model X.prog X.w) h3 (typeOf (.ref a)) cls := fun A Q E s k q => wpAny_typeOf_ref (k _ _ at3) (by rw [z3.1]; exact q)
        have LM := PySem.W.exm_one (M := model X.prog X.w) (J3.kIn) LT hb1
        have named : ∀ {Q : Value → Shared → Prop} {E : Value → Shared → Prop}, Q c { s' with heap := h3 } → wpAny (model X.prog X.w) (X.A.mark (some (.ref a))) (eval (.Name x np) X.env) Q E { s' with heap := h3 } := fun {Q E} q => by
          obtain ⟨hg, hdbg, hm | ⟨hm, hv, hnn⟩⟩ := hc
          · exact ld_glob (X := X.suite a ((a, oe3) :: (X.pn ++ pins))) S3 hg hm q hdbg
          · exact ld_blt (X := X.suite a ((a, oe3) :: (X.pn ++ pins))) S3 hg hm hv q hnn hdbg
        refine named (LM.here ?_)
        cases b with
        | true =>
          refine codeAny_handlers_suite_as ?_
          refine HandSPX.lands_againZ fl3 fun h4 fl4 up4 => ?_
          obtain ⟨oe4, vs4, at4, z4, d4⟩ := fl4.there
          have J4 : Inv X pins σ' H' { s' with heap := h4 } := J.landed nb fl4.1 ((up.trans up3).trans up4) eos ag
          have S4 := J4.suite at4 d4 na nL nF
          refine store_ok (X := X.suite a ((a, oe4) :: (X.pn ++ pins))) (v := .ref a) S4 nd hi (.inl hl) rfl (fun s5 S5 => ?_) (.inr hl)
          refine wpAny_mono ((run a oe4 cls d (X.pn ++ pins) z4 ⟨_, d4⟩).run [] s5 _ H' _ S5 (yes rfl a na)) (fun f s6 got => ?_) (fun _ _ z => False.elim z)
          have fin : ∀ {σ6 : L2.St} {H6 : Hp} {Q : Shared → Prop}, Inv (X.suite a ((a, oe4) :: (X.pn ++ pins))) [] σ6 H6 s6 → (∀ s7, Inv X pins (σ6.set i none) H6 s7 → Q s7) →
              wpAny (model X.prog X.w) X.A (do bindName X.env n .none; unbindBehindTheSuite X.env n ps) (fun _ s7 => Q s7) X.xe s6 := fun {σ6 H6 Q} S6 hq => gone_ok (S6.unsuite ok) nd hi hl hq
          cases f with
          | next => obtain ⟨σ6, H6, S6, q6⟩ := got; exact fin S6 fun s7 J7 => ⟨_, _, J7, q6⟩
          | brk => obtain ⟨σ6, H6, S6, q6⟩ := got; exact fin S6 fun s7 J7 => ⟨_, _, J7, q6⟩
          | cont => obtain ⟨σ6, H6, S6, q6⟩ := got; exact fin S6 fun s7 J7 => ⟨_, _, J7, q6⟩
          | ret u => obtain ⟨v6, σ6, H6, S6, r6, q6⟩ := got; exact fin S6 fun s7 J7 => ⟨_, _, _, J7, r6, q6⟩
        | false =>
          show wpAny _ X.A (handleBy (.ref a) X.env hs2) _ _ _
          exact ih (no rfl)
    exact go hk wish
  have fin := (hb (wHds X.K Wo D l) (X.pn ++ pins) xe htk hown).run [] s σ H D (I.toTry _) h
  refine wpAny_mono fin (fun f s1 got => ?_) (fun e s1 he => by
    have he : xe e s1 := he
    rw [hxe] at he
    exact he)
  cases f with
  | next => obtain ⟨σ', H', J', q⟩ := got; exact wpAny_execs_nil ⟨σ', H', J'.ofTry ok, q⟩
  | brk => obtain ⟨σ', H', J', q⟩ := got; exact ⟨σ', H', J'.ofTry ok, q⟩
  | cont => obtain ⟨σ', H', J', q⟩ := got; exact ⟨σ', H', J'.ofTry ok, q⟩
  | ret u => obtain ⟨v, σ', H', J', r, q⟩ := got; exact ⟨v, σ', H', J'.ofTry ok, r, q⟩
end

/-! the clauses of the small language: return (..), of constants and the error's field -/
def cstV : Expr → Option (V × DV)
  | .Constant .none _ _ => some (.non, .non)
  | .Constant (.bool b) _ _ => some (.bl b, .bl b)
  | .Constant (.int b) _ _ => some (.int b, .int b)
  | .Constant (.str b) _ _ => if okSigns b.cps.toList then some (.str b, .str b.cps.toList) else none
  | _ => none
theorem cstV_rel {K : PySem.W.Frag} {F : Hp} {e : Expr} {v : V} {d : DV} (h : cstV e = some (v, d)) : RelD K F v d := by
  unfold cstV at h
  split at h <;> first | (cases h; first | exact .non | exact .bl _ | exact .int _; done) | skip
  · split at h
    · rename_i b _ _ hb
      cases h
      exact .str _ fun c hc => by
        unfold okSigns at hb
        simpa using List.all_eq_true.mp hb c hc
    · cases h
  · cases h
theorem cstV_pe {X : Cx} {e : Expr} {v : V} {d : DV} (h : cstV e = some (v, d)) : PE X e (tC v) := by
  unfold cstV at h
  split at h <;> first | (cases h; first | exact pe_non | exact pe_bl | exact pe_int; done) | skip
  · split at h
    · cases h; exact pe_str
    · cases h
  · cases h
/-- one item: a constant, or the error's field -/
def kIt (n f : PySem.Str) : Option DV → Expr → Bool
  | some d, e => (match cstV e with | some (_, d') => cstEq d d' | none => false)
  | none, e => (match e with | .Attribute (.Name x _) g _ => decide (x = n) && decide (g = f) | _ => false)
theorem kIt_none {n f : PySem.Str} {e : Expr} (h : kIt n f none e = true) : ∃ px pg, e = .Attribute (.Name n px) f pg := by
  cases e <;> first | (cases h; done) | skip
  rename_i y g pg
  cases y <;> first | (cases h; done) | skip
  rename_i x px
  simp only [kIt, Bool.and_eq_true, decide_eq_true_eq] at h
  obtain ⟨rfl, rfl⟩ := h
  exact ⟨_, _, rfl⟩
def kIts (n f : PySem.Str) : List (Option DV) → List Expr → Bool
  | [], [] => true
  | o :: r, e :: t => kIt n f o e && notStar e && kIts n f r t
  | _, _ => false
/-- what the items are: v the field's value -/
def itV (v : V) : List Expr → List V
  | [] => []
  | e :: r => (match cstV e with | some (u, _) => u | none => v) :: itV v r
def tIt (i : Nat) (a : Addr) (cls : Value) (d : Option Addr) (C : Addr) (f : PySem.Str) (es : List Expr) : TA := fun σ H Q => σ[i]? = some (some (.ref a)) ∧ cls = .ref C ∧ ∃ dd v, d = some dd ∧ H dd = some (.xd [(f, v)]) ∧ Q (itV v es) H
section
variable {X : Cx} {a C : Addr} {oe : Obj} {cls : Value} {d : Option Addr} {pn : List (Addr × Obj)} {n f : PySem.Str} {i : Nat}
theorem pa_its (T : XfC X.K C) (hno : PySem.W.findIn X.K (.ref C) f = some none) (hz : Zc cls d oe) (hf : ∃ vs, oe.data = .fields vs) (hi : X.N[i]? = some n) (hv : Vis X.env.scope n) (hn : okName n = true) : ∀ (its : List (Option DV)) (es : List Expr), kIts n f its es = true → PA (X.suite a ((a, oe) :: pn)) es (tIt i a cls d C f es)
  | [], [], _ => PAimp pa_nil fun σ H Q ⟨_, _, dd, v, _, _, q⟩ => q
  | [], _ :: _, h => by cases h
  | _ :: _, [], h => by cases h
  | o :: r, e :: t, h => by
    simp only [kIts, Bool.and_eq_true] at h
    obtain ⟨⟨h1, h2⟩, h3⟩ := h
    have ih := pa_its T hno hz hf hi hv hn r t h3
    cases hc : cstV e with
    | some p =>
      obtain ⟨u, du⟩ := p
      refine PAimp (pa_cons (cstV_pe hc) ih (star_of h2)) fun σ H Q ⟨g1, g2, dd, v, g3, g4, q⟩ => ?_
      refine ⟨g1, g2, dd, v, g3, g4, ?_⟩
      simp only [itV, hc] at q
      exact q
    | none =>
      cases o with
      | some d0 => simp [kIt, hc] at h1
      | none =>
        obtain ⟨px, pg, rfl⟩ := kIt_none h1
        have pe := pe_xf (pos := pg) (e := .Name n px) (te := tVar i) (a := a) (pn := pn) T hno hz hf (pe_var hi hv (okName_of hn).1 (okName_of hn).2.1)
        refine PAimp (pa_cons pe ih (star_of h2)) fun σ H Q ⟨g1, g2, dd, v, g3, g4, q⟩ => ?_
        refine ⟨.ref a, g1, rfl, g2, dd, _, v, g3, g4, by simp, ?_⟩
        exact ⟨g1, g2, dd, v, g3, g4, q⟩
theorem its_rel {K : PySem.W.Frag} {F : Hp} {v : V} {d : DV} (rv : RelD K F v d) : ∀ (its : List (Option DV)) (es : List Expr), kIts n f its es = true → RelDs K F (itV v es) (its.map fun o => o.getD d)
  | [], [], _ => .nil
  | [], _ :: _, h => by cases h
  | _ :: _, [], h => by cases h
  | o :: r, e :: t, h => by
    simp only [kIts, Bool.and_eq_true] at h
    obtain ⟨⟨h1, h2⟩, h3⟩ := h
    have ih := its_rel rv r t h3
    cases o with
    | some d0 =>
      cases hc : cstV e with
      | none => simp [kIt, hc] at h1
      | some p =>
        obtain ⟨u, du⟩ := p
        simp only [kIt, hc] at h1
        simp only [itV, hc, List.map_cons, Option.getD_some]
        have e2 : d0 = du := by cases d0 <;> cases du <;> simp_all [cstEq]
        rw [e2]
        exact .cons (cstV_rel hc) ih
    | none =>
      have hc : cstV e = none := by
        obtain ⟨px, pg, rfl⟩ := kIt_none h1
        rfl
      simp only [itV, hc, List.map_cons, Option.getD_none]
      exact .cons rv ih
end
/-- return (..) or [..] -/
def kDisp (n f : PySem.Str) (tup : Bool) (its : List (Option DV)) : Expr → Bool
  | .Tuple es _ _ => tup && kIts n f its es && decide (es.length ≤ 100)
  | .List es _ => !tup && kIts n f its es && decide (es.length ≤ 100)
  | _ => false
def kHd (c : Cfg) (sc : Scope) (h : Hd) : ExceptHandler → Bool
  | .ExceptHandler (some (.Name x _)) (some n) [.Return (some e) _] _ => glob sc x && okName x && decide (h.c ∈ c.exs) && decide (x = errName h.c) && decide (c.N[h.i]? = some n) && isLocal sc n && okName n && kDisp n (errField h.c) h.tup h.its e
  | _ => false
def kHds (c : Cfg) (sc : Scope) : List Hd → List ExceptHandler → Bool
  | [], [] => true
  | h :: r, e :: t => kHd c sc h e && kHds c sc r t
  | _, _ => false
theorem kHd_inv {c : Cfg} {sc : Scope} {h : Hd} : ∀ {e : ExceptHandler}, kHd c sc h e = true → ∃ np n e0 rp ps, e = .ExceptHandler (some (.Name (errName h.c) np)) (some n) [.Return (some e0) rp] ps ∧ glob sc (errName h.c) = true ∧ okName (errName h.c) = true ∧ h.c ∈ c.exs ∧ c.N[h.i]? = some n ∧ isLocal sc n = true ∧ okName n = true ∧ kDisp n (errField h.c) h.tup h.its e0 = true := by
  intro e hk
  unfold kHd at hk
  split at hk
  · simp only [Bool.and_eq_true, decide_eq_true_eq] at hk
    obtain ⟨⟨⟨⟨⟨⟨⟨h1, h2⟩, h3⟩, rfl⟩, h5⟩, h6⟩, h7⟩, h8⟩ := hk
    exact ⟨_, _, _, _, _, rfl, h1, h2, h3, h5, h6, h7, h8⟩
  · cases hk
/-- the reading of a clause: return of its display -/
def tDisp (tup : Bool) (i : Nat) (C : Addr) (f : PySem.Str) (es : List Expr) : Addr → Value → Option Addr → TS := fun a cls d D σ H => tIt i a cls d C f es σ H fun vs H1 => vs.length ≤ sizeLine ∧ ∀ p, H1 p = none → D.rt (.ref p) (upd H1 p (if tup then .tup vs else .lst vs))
def dispEs : Expr → List Expr
  | .Tuple es _ _ => es
  | .List es _ => es
  | _ => []
theorem ps_disp {X : Cx} {a C : Addr} {oe : Obj} {cls : Value} {d : Option Addr} {pn : List (Addr × Obj)} {n f : PySem.Str} {i : Nat} {tup : Bool} {its : List (Option DV)} {e : Expr} {rp : Pos} (T : XfC X.K C) (hno : PySem.W.findIn X.K (.ref C) f = some none) (hz : Zc cls d oe) (hf : ∃ vs, oe.data = .fields vs) (hi : X.N[i]? = some n) (hv : Vis X.env.scope n) (hn : okName n = true)
    (hk : kDisp n f tup its e = true) : PSs (X.suite a ((a, oe) :: pn)) [.Return (some e) rp] (tDisp tup i C f (dispEs e) a cls d) := by
  unfold kDisp at hk
  split at hk
  · simp only [Bool.and_eq_true] at hk
    have pa := pa_its (a := a) (pn := pn) T hno hz hf hi hv hn its _ hk.1.2
    refine PSsimp (pss_one (ps_ret (pe_tup pa))) fun D σ H h => ?_
    rw [hk.1.1] at h
    exact h
  · simp only [Bool.and_eq_true, Bool.not_eq_true'] at hk
    have pa := pa_its (a := a) (pn := pn) T hno hz hf hi hv hn its _ hk.1.2
    refine PSsimp (pss_one (ps_ret (pe_lst pa))) fun D σ H h => ?_
    rw [hk.1.1] at h
    exact h
  · cases hk
theorem disp_len {n f : PySem.Str} {tup : Bool} {its : List (Option DV)} {e : Expr} (hk : kDisp n f tup its e = true) : kIts n f its (dispEs e) = true ∧ (dispEs e).length ≤ 100 := by
  unfold kDisp at hk
  split at hk
  · simp only [Bool.and_eq_true, decide_eq_true_eq] at hk
    exact ⟨hk.1.2, hk.2⟩
  · simp only [Bool.and_eq_true, decide_eq_true_eq] at hk
    exact ⟨hk.1.2, hk.2⟩
  · cases hk
theorem itV_len (v : V) : ∀ es : List Expr, (itV v es).length = es.length
  | [] => rfl
  | _ :: r => by simp only [itV, List.length_cons, itV_len v r]
/-- where a statement stands: in the body of a def -/
structure Frm (X : Cx) : Prop where
  st : X.stack = X.env :: X.outer
  fr : X.env.frame = some X.env.locals
section
variable {X : Cx} {c : Cfg} {G : Nat → Option Fn} {fld : Nat → Addr × PySem.Str} {k : Nat} {sc : Scope} {fb : PySem.Str → Bool} {W : WX}
theorem Ok.tr (o : Ok X c G fld k sc fb) (pn : List (Addr × Obj)) (xe : Value → Shared → Prop) : Ok (X.tr pn xe) c G fld k sc fb :=
  ⟨⟨o.g.N, o.g.nd, o.g.calm, o.g.room1, fun f x g h1 h2 => ⟨(o.g.fns f x g h1 h2).ex⟩, o.g.blt, o.g.mts, o.g.exs, o.g.exm, o.g.efl⟩, o.sc, o.fb, o.gls⟩
/-- the clauses' readings -/
def hdRs (fld : Nat → Addr × PySem.Str) : List Hd → List ExceptHandler → List HdR
  | h :: r, e :: t => (.ref (fld h.c).1, h.i, tDisp h.tup h.i (fld h.c).1 (errField h.c) (match e with | .ExceptHandler _ _ [.Return (some e0) _] _ => dispEs e0 | _ => [])) :: hdRs fld r t
  | _, _ => []
theorem hds_ok (o : Ok X c G fld k sc fb) : ∀ (hs : List Hd) (es : List ExceptHandler), kHds c sc hs es = true → HdOk X es (hdRs fld hs es)
  | [], [], _ => .nil
  | [], _ :: _, h => by cases h
  | _ :: _, [], h => by cases h
  | h :: r, e :: t, hk => by
    simp only [kHds, Bool.and_eq_true] at hk
    obtain ⟨np, n, e0, rp, ps, rfl, h1, h2, h3, h4, h5, h6, h7⟩ := kHd_inv hk.1
    obtain ⟨_, E⟩ := o.g.exs h.c h3
    have en : (fld h.c).2 = errField h.c := o.g.efl h.c
    refine .cons (o.at_ h4) (o.isLocal h5) ⟨o.gl h1, (okName_of h2).1, .inl E.gl⟩ (fun a oe cls d pn hz hf => ?_) (hds_ok o r t hk.2)
    exact ps_disp E.xf (by rw [← en]; exact E.no) hz hf (o.at_ h4) (.inl (o.isLocal h5)) h6 h7
theorem s_try {body : List Stmt} {h₀ : ExceptHandler} {es : List ExceptHandler} {hs : List Hd} {cs : List Nat} {mb : Sts} {pos : Pos} (o : Ok X c G fld k sc fb) (fm : Frm X) (tk : Takes X W) (hk : kHds c sc hs (h₀ :: es) = true) (hcs : cs.all (fun q => decide (q ∈ c.exs)) = true)
    (hb : ∀ (W' : WX) (pn : List (Addr × Obj)) (xe : Value → Shared → Prop), Takes (X.tr pn xe) W' → PassesOwn (model X.prog X.w) X.A X.env xe → PSs (X.tr pn xe) body (tLSs X.K G fld W' mb)) :
    PS X (.Try body (h₀ :: es) [] [] pos) (tLS X.K G fld W (.tryR mb hs cs)) := by
  refine PSimp (ps_try_hds (tb := fun W' => tLSs X.K G fld W' mb) fm.st fm.fr o.g.nd tk hb (hds_ok o hs (h₀ :: es) hk)) fun D σ H ⟨r, m, Z, F, Dd, w, sl, hq, ok⟩ => ?_
  simp only [rdS] at hq
  refine ⟨r, m, Z, F, _, w, sl, hq, ⟨ok.nx, ok.rt, ok.bk, ok.ct, ?_⟩⟩
  rintro x r' m' σ' H' F' cls dd ⟨⟨hx, hlt⟩, hm⟩ e' w' s' ⟨rfl, dx, v, rfl, y1, y2, y3, y4, y5⟩
  have hxe : x.cls ∈ c.exs := by simpa using List.all_eq_true.mp hcs _ hx
  have go : ∀ (hs : List Hd) (es : List ExceptHandler), hs.all (fun h => decide (h.i < r'.length)) = true → kHds c sc hs es = true → (match hs.find? fun h => h.c == x.cls with | some h => Dd.rt (h.val x.arg) m' | none => Dd.ex x r' m') → wHds X.K W D (hdRs fld hs es) (.ref (fld x.cls).1) (some dx) σ' H' := by
    intro hs
    induction hs with
    | nil =>
      intro es hlt hk hm
      cases es with
      | cons _ _ => cases hk
      | nil => exact ok.ex x r' m' σ' H' F' _ _ hm e' w' s' ⟨rfl, dx, v, rfl, y1, y2, y3, y4, y5⟩
    | cons h t ih =>
      intro es hlt hk hm
      cases es with
      | nil => cases hk
      | cons e et =>
        simp only [kHds, Bool.and_eq_true] at hk
        obtain ⟨np, n, e0, rp, ps, rfl, h1, h2, h3, h4, h5, h6, h7⟩ := kHd_inv hk.1
        refine ⟨x.cls == h.c, o.g.exm _ _ hxe h3, fun hb a ha => ?_, fun hb => ?_⟩
        · have ec : x.cls = h.c := by simpa using hb
          have hi : h.i < σ'.length := by
            rw [s'.len]
            simpa using List.all_eq_true.mp hlt h List.mem_cons_self
          rw [List.find?_cons_of_pos (by simp [ec])] at hm
          have hm : Dd.rt (h.val x.arg) m' := hm
          obtain ⟨k1, k2⟩ := disp_len h7
          refine ⟨List.getElem?_set_self hi, by rw [ec], dx, v, rfl, by rw [y1, o.g.efl, ec], ?_, fun p hp => ?_⟩
          · show (itV v (dispEs e0)).length ≤ sizeLine
            rw [itV_len, ← LINE_eq]
            have : (100 : Nat) ≤ LINE := by decide
            omega
          · have rel : RelDs X.K F' (itV v (dispEs e0)) (h.its.map fun o => o.getD x.arg) := its_rel y5 _ _ k1
            have hlen : (itV v (dispEs e0)).length ≤ LINE := by
              rw [itV_len]
              have : (100 : Nat) ≤ LINE := by decide
              omega
            unfold Hd.val at hm
            show D.rt (.ref p) (upd H' p (if h.tup then .tup (itV v (dispEs e0)) else .lst (itV v (dispEs e0))))
            cases ht : h.tup with
            | true =>
              rw [ht] at hm
              obtain ⟨w2, e2⟩ := w'.new hp (.tup (itV v (dispEs e0)))
              exact ok.rt _ m' _ _ _ hm (e'.trans e2) w2 (.tup upd_same (rel.mono e2.sm) hlen)
            | false =>
              rw [ht] at hm
              obtain ⟨w2, e2⟩ := w'.new hp (.lst (itV v (dispEs e0)))
              exact ok.rt _ m' _ _ _ hm (e'.trans e2) w2 (.lst upd_same (rel.mono e2.sm) hlen)
        · have ec : ¬ h.c = x.cls := fun z => by simp [z] at hb
          rw [List.find?_cons_of_neg (by simpa using ec)] at hm
          rw [List.all_cons, Bool.and_eq_true] at hlt
          exact ih et hlt.2 hk.2 hm
  exact go hs (h₀ :: es) hlt hk hm
end
end DL

set_option Elab.async false
set_option linter.all false
set_option maxRecDepth 100000
set_option maxHeartbeats 8000000
namespace DL
open PySem L2
section
variable {c : Cfg} {G : Nat → Option Fn} {fld : Nat → Addr × PySem.Str} {k : Nat}
/-- every def that a text calls is in the table -/
def inTab (G : Nat → Option Fn) (c : Cfg) : Prop := ∀ (f : Nat) (x : PySem.Str × List PySem.Str), (c.fns.lookup f) = some x → ∃ g, G f = some g
abbrev SE (c : Cfg) (G : Nat → Option Fn) (fld : Nat → Addr × PySem.Str) (k : Nat) (m : Ex) : Prop := ∀ {X : Cx} {sc : Scope} {fb : PySem.Str → Bool} {e : Expr} {W : WX}, Ok X c G fld k sc fb → Takes X W → chkE c m sc fb e = true → PE X e (tL X.K G fld W m)
abbrev ST (c : Cfg) (G : Nat → Option Fn) (fld : Nat → Addr × PySem.Str) (k : Nat) (m : Ts) : Prop := ∀ {X : Cx} {sc : Scope} {fb : PySem.Str → Bool} {e : Expr} {W : WX}, Ok X c G fld k sc fb → Takes X W → chkT c m sc fb e = true → PT X e (tLT X.K G fld W m)
abbrev SO (c : Cfg) (G : Nat → Option Fn) (fld : Nat → Addr × PySem.Str) (k : Nat) (m : Ox) : Prop := ∀ {X : Cx} {sc : Scope} {fb : PySem.Str → Bool} {e : Option Expr} {W : WX}, Ok X c G fld k sc fb → Takes X W → chkO c m sc fb e = true → PO X e (tLO X.K G fld W m)
abbrev SA (c : Cfg) (G : Nat → Option Fn) (fld : Nat → Addr × PySem.Str) (k : Nat) (m : Exs) : Prop := ∀ {X : Cx} {sc : Scope} {fb : PySem.Str → Bool} {e : List Expr} {W : WX}, Ok X c G fld k sc fb → Takes X W → chkA c m sc fb e = true → PA X e (tLA X.K G fld W m)
abbrev SI (c : Cfg) (G : Nat → Option Fn) (fld : Nat → Addr × PySem.Str) (k : Nat) (m : Its) : Prop := ∀ {X : Cx} {sc : Scope} {fb : PySem.Str → Bool} {e : List Expr} {W : WX}, Ok X c G fld k sc fb → Takes X W → chkI c m sc fb e = true → PA X e (tLI X.K G fld W m)
abbrev SW (c : Cfg) (G : Nat → Option Fn) (fld : Nat → Addr × PySem.Str) (k : Nat) (m : It) : Prop := ∀ {X : Cx} {sc : Scope} {fb : PySem.Str → Bool} {tg e : Expr} {W : WX}, Ok X c G fld k sc fb → Takes X W → chkW c m sc fb tg e = true → PI X tg e (tLW X.K G fld W m)
/-- and its form as a new list -/
abbrev SN (c : Cfg) (G : Nat → Option Fn) (fld : Nat → Addr × PySem.Str) (k : Nat) (m : Ex) : Prop := ∀ {X : Cx} {sc : Scope} {fb : PySem.Str → Bool} {e : Expr} {W : WX}, Ok X c G fld k sc fb → Takes X W → isNew m = true → chkE c m sc fb e = true → PE X e (tN X.K G fld W m)
theorem z_var (i : Nat) : SE c G fld k (.var i) := fun o tk h => by
  obtain ⟨x, p, rfl, h1, h2, h3⟩ := kVar_inv h
  exact s_var (pe_var (o.at_ h1) (o.vis h2) (okName_of h3).1 (okName_of h3).2.1)
theorem z_tup {es : Its} (i : SI c G fld k es) : SE c G fld k (.tup es) := fun o tk h => by
  obtain ⟨xs, q, p, rfl, h1⟩ := kTup_inv h
  exact s_tup (i o tk h1)
theorem zn_lst {es : Its} (i : SI c G fld k es) : SN c G fld k (.lst es) := fun o tk _ h => by
  obtain ⟨xs, p, rfl, h1⟩ := kLst_inv h
  exact n_lst (i o tk h1)
theorem z_bin {op : BOp} {a b : Ex} (ia : SE c G fld k a) (ib : SE c G fld k b) : SE c G fld k (.bin op a b) := fun o tk h => by
  obtain ⟨x, y, p, rfl, h1, h2⟩ := kBin_inv h
  exact s_bin (ia o tk h1) (ib o tk h2)
theorem z_neg {a : Ex} (ia : SE c G fld k a) : SE c G fld k (.neg a) := fun o tk h => by
  obtain ⟨x, p, rfl, h1⟩ := kUn_inv h
  exact s_neg (ia o tk h1)
theorem z_notv {a : Ex} (ia : SE c G fld k a) : SE c G fld k (.notv a) := fun o tk h => by
  obtain ⟨x, p, rfl, h1⟩ := kUn_inv h
  exact s_notv (ia o tk h1)
theorem z_cmp {op : COp} {a b : Ex} (ia : SE c G fld k a) (ib : SE c G fld k b) : SE c G fld k (.cmp op a b) := fun o tk h => by
  obtain ⟨x, y, p, rfl, h0, h1, h2⟩ := kCmp_inv h
  exact s_cmp o.g.room (ia o tk h1) (ib o tk h2) (marks_of h0)
theorem z_cmp2 {op op' : COp} {a b d : Ex} (ia : SE c G fld k a) (ib : SE c G fld k b) (id : SE c G fld k d) : SE c G fld k (.cmp2 op op' a b d) := fun o tk h => by
  obtain ⟨x, y, z, p, rfl, h0, h1, h2, h3⟩ := kCmp2_inv h
  exact s_cmp2 o.g.room (ia o tk h1) (ib o tk h2) (id o tk h3) (marks_of (op := copP op') h0)
theorem z_andv {a b : Ex} (ia : SE c G fld k a) (ib : SE c G fld k b) : SE c G fld k (.andv a b) := fun o tk h => by
  obtain ⟨x, y, p, h1, ⟨rfl, h2⟩ | ⟨z, r, rfl, h2⟩⟩ := kBool_inv h
  · exact s_andv (ia o tk h1) (pe_one (ib o tk h2))
  · exact s_andv (ia o tk h1) (ib o tk h2)
theorem z_orv {a b : Ex} (ia : SE c G fld k a) (ib : SE c G fld k b) : SE c G fld k (.orv a b) := fun o tk h => by
  obtain ⟨x, y, p, h1, ⟨rfl, h2⟩ | ⟨z, r, rfl, h2⟩⟩ := kBool_inv h
  · exact s_orv (ia o tk h1) (pe_one (ib o tk h2))
  · exact s_orv (ia o tk h1) (ib o tk h2)
theorem z_ife {t : Ts} {a b : Ex} (it : ST c G fld k t) (ia : SE c G fld k a) (ib : SE c G fld k b) : SE c G fld k (.ife t a b) := fun o tk h => by
  obtain ⟨q, x, y, p, rfl, h1, h2, h3⟩ := kIf_inv h
  exact s_ife (it o tk h1) (ia o tk h2) (ib o tk h3)
theorem z_sub {a b : Ex} (ia : SE c G fld k a) (ib : SE c G fld k b) : SE c G fld k (.sub a b) := fun o tk h => by
  obtain ⟨x, y, p, rfl, h0, h1, h2⟩ := kSub_inv h
  exact s_sub (ia o tk h1) (ib o tk h2) (plainIx_of h0)
theorem z_slc {a : Ex} {lo hi : Ox} (ia : SE c G fld k a) (il : SO c G fld k lo) (ih : SO c G fld k hi) : SE c G fld k (.slc a lo hi) := fun o tk h => by
  obtain ⟨x, l, hh, p2, p, rfl, h1, h2, h3⟩ := kSlc_inv h
  exact s_slc (ia o tk h1) (il o tk h2) (ih o tk h3)
/-- the parts of an argument list -/
inductive AllE (p : Ex → Prop) : Exs → Prop
  | nil : AllE p .nil
  | cons {a : Ex} {r : Exs} : p a → AllE p r → AllE p (.cons a r)
theorem sa_kw2 {X : Cx} {sc : Scope} {fb : PySem.Str → Bool} {W : WX} (o : Ok X c G fld k sc fb) (tk : Takes X W) : ∀ {es : Exs} {kws : List Keyword}, AllE (SE c G fld k) es → chkA c es sc fb (kwEs kws) = true → PK X kws (tLA X.K G fld W es)
  | .nil, [], _, _ => s_kwnil
  | .nil, ⟨_, _, _⟩ :: _, _, h => by
    have h' : (false : Bool) = true := h
    cases h'
  | .cons _ _, [], _, h => by cases h
  | .cons m r, ⟨nm, e, kp⟩ :: t, .cons i1 i2, h => by
    have h' : (notStar e && chkE c m sc fb e && chkA c r sc fb (kwEs t)) = true := h
    simp only [Bool.and_eq_true] at h'
    exact s_kwcons (i1 o tk h'.1.2) (sa_kw2 o tk i2 h'.2)
theorem z_call (ht : inTab G c) {f : Nat} {es : Exs} (ie : AllE (SE c G fld k) es) (i : SA c G fld k es) : SE c G fld k (.call f es) := fun {X sc fb e W} o tk h => by
  obtain ⟨x, px, as, kws, p, rfl, h1, h2⟩ := kFn_inv h
  simp only [Bool.and_eq_true, decide_eq_true_eq] at h1
  obtain ⟨⟨h1, h5⟩, h6⟩ := h1
  cases hf : (c.fns.lookup f) with
  | none => rw [hf] at h6; cases h6
  | some q =>
    obtain ⟨x', ks⟩ := q
    rw [hf] at h6 h2
    cases h6
    obtain ⟨g, hg⟩ := ht f _ hf
    have hfa := o.g.fns f _ g hf hg
    rcases h2 with ⟨e1, rfl, h3, h4⟩ | ⟨e1, rfl, h3, h4⟩
    · have e1 : ks = [] := e1
      subst e1
      cases as with
      | nil =>
        cases es with
        | nil => exact s_call0 hg o.g.room hfa (o.gl h1) tk (okName_of h5).1
        | cons _ _ => cases h3
      | cons y ys =>
        simp only [List.all_cons, Bool.and_eq_true] at h4
        exact s_call hg o.g.room hfa (o.gl h1) tk (i o tk h3) (okName_of h5).1 (star_of h4.1) (back_of h4.2)
    · exact s_callk hg o.g.room hfa e1 (o.gl h1) tk (sa_kw2 o tk ie h4) h3 (okName_of h5).1
theorem z_blt {b : Blt} {es : Exs} (i : SA c G fld k es) : SE c G fld k (.blt b es) := fun o tk h => by
  obtain ⟨x, px, y, ys, p, rfl, h1, h2, h3, h4⟩ := kCall_inv h
  simp only [Bool.and_eq_true, decide_eq_true_eq] at h1
  obtain ⟨⟨h1, h5⟩, rfl⟩ := h1
  exact s_blt o.g.calm h1 (o.gl h5) (o.g.blt _ (blt_mem b)) (i o tk h2) (star_of h3) (back_of h4)
theorem zn_list {a : Ex} (ia : SE c G fld k a) : SN c G fld k (.blt .list (.cons a .nil)) := fun o tk _ h => by
  obtain ⟨x, px, y, ys, p, rfl, h1, h2, h3, h4⟩ := kCall_inv h
  simp only [Bool.and_eq_true, decide_eq_true_eq] at h1
  obtain ⟨⟨h1, h5⟩, rfl⟩ := h1
  have h2' : (notStar y && chkE c a _ _ y && ys.isEmpty) = true := h2
  simp only [Bool.and_eq_true] at h2'
  obtain ⟨⟨h6, h7⟩, h8⟩ := h2'
  cases ys with
  | nil => exact n_list o (o.gl h5) (ia o tk h7) h6
  | cons _ _ => cases h8
theorem z_isi {a : Ex} {t : Kind} (ia : SE c G fld k a) : SE c G fld k (.isi a t) := fun o tk h => by
  obtain ⟨px, y, pt, p, rfl, h1, h2, h3, h4, h5⟩ := kIsi_inv h
  exact s_isi h1 (o.gl h2) (o.g.blt _ (by decide +kernel)) (o.gl h3) (o.g.blt _ (kind_mem t h1)) (ia o tk h5) (star_of h4)
theorem z_met {t : Met} {ob a : Ex} (io : SE c G fld k ob) (ia : SE c G fld k a) : SE c G fld k (.met t ob (.cons a .nil)) := fun {X sc fb e W} o tk h => by
  have h' : (metOk t && (true && kMet t (chkE c ob sc fb) (chkE c a sc fb) e)) = true := h
  simp only [Bool.and_eq_true, Bool.true_and] at h'
  obtain ⟨h0, h⟩ := h'
  obtain ⟨y, ap, x, p, rfl, h1, h2, h3, h4, h5⟩ := kMet_inv h
  cases t with
  | append => exact s_append (io o tk h4) (ia o tk h5) (base_of h1) (star_of h2) h3
  | pop => exact s_pop (io o tk h4) (ia o tk h5) (base_of h1) (star_of h2) h3
  | join => exact s_join (io o tk h4) (ia o tk h5) (base_of h1) (star_of h2) h3
  | pop0 => cases h0
  | split => cases h0
  | index => exact s_index o.g.room (io o tk h4) (ia o tk h5) (base_of h1) (star_of h2) h3
  | remove => exact s_remove o.g.calm tk (io o tk h4) (ia o tk h5) (base_of h1) (star_of h2) h3
theorem zn_comp {p : Pat} {vs : List Nat} {it : It} {t : Ts} {a : Ex} (iw : SW c G fld k it) (it' : ST c G fld k t) (ia : SE c G fld k a) : SN c G fld k (.comp p vs it t a) := fun {X sc fb e W} o tk _ h => by
  obtain ⟨elt, tg, iter, ifs, scope, ps, rfl, h1, h2, h3, h4, h5, h6, h7, h8⟩ := kComp_inv h
  refine (comp_parts o h1 h2 h3 h4 (iw o tk h5) h6 (fun X' eK o' => ?_) (fun X' eK o' => ia o' takes0 h8)).2
  simp only [Bool.or_eq_true, Bool.and_eq_true] at h7
  rcases h7 with ⟨h7, h9⟩ | h7
  · cases ifs with
    | cons _ _ => cases h9
    | nil =>
      cases t <;> first | (cases h7; done) | skip
      exact ⟨fun pins s σ H Q I hw => pts_nil.run pins s σ H Q I (by
        obtain ⟨r, m, Z, F, Qd, Ed, w, sl, hq, post, xp⟩ := hw
        exact post true m true H F hq (Ext.refl Z F) w rfl)⟩
  · match ifs, h7 with
    | [q], h7 => exact pts_one (it' o' takes0 h7)
theorem z_own {a : Ex} (hs : isSlc a = false) (ia : SN c G fld k a) : SE c G fld k (.own a) := fun {X sc fb e W} o tk h => by
  have h' : ((isNew a || isSlc a) && chkE c a sc fb e) = true := h
  rw [hs, Bool.or_false] at h'
  simp only [Bool.and_eq_true] at h'
  exact PE.owned (ia o tk h'.1 h'.2)
theorem s_ownslc {X : Cx} {W : WX} {a : Expr} {ma : Ex} {pos : Pos} {lo hi : Option Expr} {ml mh : Ox} {p2 : Pos} (ha : PE X a (tL X.K G fld W ma)) (hl : PO X lo (tLO X.K G fld W ml)) (hh : PO X hi (tLO X.K G fld W mh)) :
    PE X (.Subscript a (.Slice lo hi none p2) pos) (tL X.K G fld W (.own (.slc ma ml mh))) := by
  refine PEimp (pe_slice sl_list ha hl hh) fun σ H Q ⟨r, m, Z, F, Qd, Ed, w, sl, hq, post, xp⟩ => ?_
  simp only [rdE] at hq
  refine ⟨r, m, Z, F, _, Ed, w, sl, hq, fun d1 m1 v1 H1 F1 q1 e1 w1 r1 => ?_, xp⟩
  refine ⟨r, m1, Z, F1, _, Ed, w1, sl.mono e1.sm, q1, fun i m2 i' H2 F2 q2 e2 w2 r2 => ?_, xp.ext e1⟩
  cases r2
  refine ⟨r, m2, Z, F2, _, Ed, w2, sl.mono (e1.trans e2).sm, q2, fun j m3 j' H3 F3 q3 e3 w3 r3 => ?_, xp.ext (e1.trans e2)⟩
  cases r3
  have r1' := r1.mono (e2.trans e3).sm
  have e13 := e1.trans (e2.trans e3)
  unfold cutD at q3
  split at q3
  · rename_i xs e
    obtain ⟨p, vs, rfl, hp, rs, hl⟩ := w3.lst r1' e
    refine ⟨p, vs, rfl, SqL.of hp, fun q hq => ?_⟩
    obtain ⟨w', hm⟩ := w3.own hq (o := .lst (cutV vs i j)) (u := .lst (cut xs i j)) ⟨_, upd_same, cutV_rel rs i j, Nat.le_trans (cutV_len vs i j) hl⟩
    exact post _ _ _ _ F3 (q3 q hm) e13 w' (.loc q)
  · exact q3.elim
  · exact q3.2.elim
  · exact q3.elim
theorem z_ownslc {a : Ex} {lo hi : Ox} (ia : SE c G fld k a) (il : SO c G fld k lo) (ih : SO c G fld k hi) : SE c G fld k (.own (.slc a lo hi)) := fun {X sc fb e W} o tk h => by
  have h' : (true && chkE c (.slc a lo hi) sc fb e) = true := h
  rw [Bool.true_and] at h'
  obtain ⟨x, l, hh, p2, p, rfl, h1, h2, h3⟩ := kSlc_inv h'
  exact s_ownslc (ia o tk h1) (il o tk h2) (ih o tk h3)
theorem addL {x y : DV} {m : Mu} {k : Post} (h : binD .add x y fun z => newD z m k) : ∃ s t, x = .lst s ∧ y = .lst t ∧ (s.length + t.length ≤ LINE ∧ newD (.lst (s ++ t)) m k) := by
  cases x <;> cases y <;> first | (exact ⟨_, _, rfl, rfl, h⟩) | (exact False.elim h) | (exact False.elim h.2)
theorem s_ownadd {X : Cx} {W : WX} {a b : Expr} {ma mb : Ex} {pos : Pos} (ha : PE X a (tL X.K G fld W ma)) (hb : PE X b (tL X.K G fld W mb)) :
    PE X (.BinOp a (bopP .add) b pos) (tL X.K G fld W (.own (.bin .add ma mb))) := by
  refine PEimp (pe_op (op_bin .add) ha hb) fun σ H Q ⟨r, m, Z, F, Qd, Ed, w, sl, hq, post, xp⟩ => ?_
  simp only [rdE] at hq
  refine ⟨r, m, Z, F, _, Ed, w, sl, hq, fun d1 m1 v1 H1 F1 q1 e1 w1 r1 => ?_, xp⟩
  refine ⟨r, m1, Z, F1, _, Ed, w1, sl.mono e1.sm, q1, fun d2 m2 v2 H2 F2 q2 e2 w2 r2 => ?_, xp.ext e1⟩
  have r1' := r1.mono e2.sm
  obtain ⟨s, t, e1', e2', q2⟩ := addL q2
  obtain ⟨a, xs, rfl, ha, ra, la⟩ := w2.lst r1' e1'
  obtain ⟨b, ys, rfl, hb, rb, lb⟩ := w2.lst r2 e2'
  have l1 := ra.length
  have l2 := rb.length
  refine .inr (.inr (.inr ⟨a, b, xs, ys, rfl, rfl, ha, hb, by rw [l1, l2, ← LINE_eq]; exact q2.1, fun p hp => ?_⟩))
  obtain ⟨w', hm⟩ := w2.own hp (o := .lst (xs ++ ys)) (u := .lst (s ++ t)) ⟨_, upd_same, ra.append rb, by rw [List.length_append, l1, l2]; exact q2.1⟩
  exact post _ _ _ _ F2 (q2.2 p hm) (e1.trans e2) w' (.loc p)
theorem z_ownadd {a b : Ex} (ia : SE c G fld k a) (ib : SE c G fld k b) : SE c G fld k (.own (.bin .add a b)) := fun {X sc fb e W} o tk h => by
  have h' : (true && chkE c (.bin .add a b) sc fb e) = true := h
  rw [Bool.true_and] at h'
  obtain ⟨x, y, p, rfl, h1, h2⟩ := kBin_inv h'
  exact s_ownadd (ia o tk h1) (ib o tk h2)
theorem z_rev {a : Ex} (ia : SE c G fld k a) : SE c G fld k (.rev a) := fun o tk h => by
  obtain ⟨x, q, p1, p2, p3, p, rfl, h1⟩ := kRev_inv h
  exact s_rev (ia o tk h1)
theorem z_frz {a : Ex} (ia : SE c G fld k a) : SE c G fld k (.frz a) := fun o tk h => s_frz (ia o tk h)
theorem SN.se {a : Ex} (h : isNew a = true) (ia : SN c G fld k a) : SE c G fld k a := fun o tk q => PE.frozen (ia o tk h q)
theorem z_tand {a b : Ts} (ia : ST c G fld k a) (ib : ST c G fld k b) : ST c G fld k (.and a b) := fun o tk h => by
  obtain ⟨x, y, p, h1, ⟨rfl, h2⟩ | ⟨z, r, rfl, h2⟩⟩ := kBool_inv h
  · exact PW.pt (s_tand (ia o tk h1) (pw_and1 (ib o tk h2)))
  · exact PW.pt (s_tand (ia o tk h1) ⟨fun wh pins s σ H Q I q => (ib o tk h2).run pins s σ H Q I q⟩)
theorem z_tor {a b : Ts} (ia : ST c G fld k a) (ib : ST c G fld k b) : ST c G fld k (.or a b) := fun o tk h => by
  obtain ⟨x, y, p, h1, ⟨rfl, h2⟩ | ⟨z, r, rfl, h2⟩⟩ := kBool_inv h
  · exact PW.pt (s_tor (ia o tk h1) (pw_or1 (ib o tk h2)))
  · exact PW.pt (s_tor (ia o tk h1) ⟨fun wh pins s σ H Q I q => (ib o tk h2).run pins s σ H Q I q⟩)
theorem z_tnot {a : Ts} (ia : ST c G fld k a) : ST c G fld k (.not a) := fun o tk h => by
  obtain ⟨x, p, rfl, h1⟩ := kUn_inv h
  exact s_tnot (ia o tk h1)
theorem z_ex {a : Ex} (ia : SE c G fld k a) (hn : isCmp a = false) : ST c G fld k (.ex a) := fun {X sc fb e W} o tk h => by
  have h' : ((isCmp a || plainT e) && chkE c a sc fb e) = true := h
  rw [hn] at h'
  simp only [Bool.false_or, Bool.and_eq_true] at h'
  exact s_ex (ia o tk h'.2) h'.1
theorem one_of {X : Cx} {sc : Scope} {fb : PySem.Str → Bool} {es : Exs} {y : Expr} (h : chkA c es sc fb [y] = true) : ∃ a, es = .cons a .nil ∧ chkE c a sc fb y = true := by
  cases es with
  | nil => cases h
  | cons a r =>
    have h' : (notStar y && chkE c a sc fb y && chkA c r sc fb []) = true := h
    simp only [Bool.and_eq_true] at h'
    cases r with
    | nil => exact ⟨a, rfl, h'.1.2⟩
    | cons _ _ => cases h'.2
theorem AllE.one {p : Ex → Prop} {a : Ex} (h : AllE p (.cons a .nil)) : p a := by cases h; assumption
theorem z_exT (neg : Bool) {es : Exs} (ie : AllE (SE c G fld k) es) : ST c G fld k (.ex (.op (if neg then .notT else .isT) es)) := fun {X sc fb e W} ok tk h => by
  cases neg with
  | false =>
    have h' : (true && (match kOp c sc .isT e with | some xs => chkA c es sc fb xs | none => false)) = true := h
    rw [Bool.true_and] at h'
    simp only [kOp] at h'
    split at h' <;> first | (cases h'; done) | skip
    rename_i xs hk
    split at hk <;> first | (cases hk; done) | skip
    cases hk
    obtain ⟨a, rfl, ha⟩ := one_of (X := X) h'
    exact s_isTT (ie.one ok tk ha)
  | true =>
    have h' : (true && (match kOp c sc .notT e with | some xs => chkA c es sc fb xs | none => false)) = true := h
    rw [Bool.true_and] at h'
    simp only [kOp] at h'
    split at h' <;> first | (cases h'; done) | skip
    rename_i xs hk
    split at hk <;> first | (cases hk; done) | skip
    cases hk
    obtain ⟨a, rfl, ha⟩ := one_of (X := X) h'
    exact s_notTT (ie.one ok tk ha)
theorem z_excmp {op : COp} {a b : Ex} (ia : SE c G fld k a) (ib : SE c G fld k b) : ST c G fld k (.ex (.cmp op a b)) := fun {X sc fb e W} o tk h => by
  have h' : (true && kCmp (copP op) (chkE c a sc fb) (chkE c b sc fb) e) = true := h
  rw [Bool.true_and] at h'
  obtain ⟨x, y, p, rfl, h0, h1, h2⟩ := kCmp_inv h'
  exact s_cmpT o.g.room (ia o tk h1) (ib o tk h2) (marks_of h0)
theorem z_excmp2 {op op' : COp} {a b d : Ex} (ia : SE c G fld k a) (ib : SE c G fld k b) (id : SE c G fld k d) : ST c G fld k (.ex (.cmp2 op op' a b d)) := fun {X sc fb e W} o tk h => by
  have h' : (true && kCmp2 (copP op) (copP op') (chkE c a sc fb) (chkE c b sc fb) (chkE c d sc fb) e) = true := h
  rw [Bool.true_and] at h'
  obtain ⟨x, y, z, p, rfl, h0, h1, h2, h3⟩ := kCmp2_inv h'
  exact s_cmp2T o.g.room (ia o tk h1) (ib o tk h2) (id o tk h3) (marks_of (op := copP op') h0)
theorem okOpt {α : Type} {b : Bool} {x y : α} (h : (if b = true then some x else none) = some y) : b = true ∧ x = y := by
  cases b
  · cases h
  · exact ⟨rfl, by simpa using h⟩
theorem mt_of {i kd cc : Nat} {nm : PySem.Str} (h : (match (c.mts.lookup i) with | some t => decide (t.kind = kd) && decide (t.cls = cc) && decide (t.name = nm) | none => false) = true) : ∃ t, (c.mts.lookup i) = some t ∧ t.kind = kd ∧ t.cls = cc ∧ t.name = nm := by
  split at h
  · rename_i t e
    simp only [Bool.and_eq_true, decide_eq_true_eq] at h
    exact ⟨t, e, h.1.1, h.1.2, h.2⟩
  · cases h
theorem back_all {pos : Pos} {env : PySem.Env} : ∀ {es : List Expr}, es.all notStar = true → (backTo pos (starEach es env)).all (fun x => !x.1) = true
  | [], _ => rfl
  | e :: es, h => by
    simp only [List.all_cons, Bool.and_eq_true] at h
    rw [star_of h.1]
    show (true && (backTo pos (starEach es env)).all (fun x => !x.1)) = true
    rw [back_all h.2]
    rfl
theorem mform_of {pos : Pos} {env : PySem.Env} {es : List Expr} (h : es.all notStar = true) (hl : es.length < 20) : methodCallForm (es.length + ([] : List Keyword).length) (backTo pos (starEach es env)) (backToKw pos (keywordEach [] env)) = true := by
  unfold methodCallForm
  rw [back_all h]
  show (true && true && decide (es.length + 0 + 0 < 30)) = true
  simp only [Bool.true_and]
  exact decide_eq_true (by omega)
theorem z_op (ht : inTab G c) {o : Op} {es : Exs} (ie : AllE (SE c G fld k) es) (i : SA c G fld k es) : SE c G fld k (.op o es) := fun {X sc fb e W} ok tk h => by
  have h' : (match kOp c sc o e with | some xs => chkA c es sc fb xs | none => false) = true := h
  cases hk : kOp c sc o e with
  | none => rw [hk] at h'; cases h'
  | some xs =>
    rw [hk] at h'
    have h' : chkA c es sc fb xs = true := h'
    cases o with
    | att j cc f =>
      simp only [kOp] at hk
      split at hk
      · obtain ⟨hb, rfl⟩ := okOpt hk
        simp only [Bool.and_eq_true, decide_eq_true_eq] at hb
        obtain ⟨⟨h1, h2⟩, h3⟩ := hb
        obtain ⟨t, e1, e2, e3, e4⟩ := mt_of h2
        obtain ⟨g, _, hc, hm⟩ := ok.g.mts j t e1
        rw [e2] at hm
        rw [e3] at hc hm
        rw [e4] at hm
        obtain ⟨a, rfl, ha⟩ := one_of (X := X) h'
        subst h3
        exact s_att hc hm (ie.one ok tk ha) (base_of h1)
      · cases hk
    | prp j cc =>
      simp only [kOp] at hk
      split at hk
      · obtain ⟨hb, rfl⟩ := okOpt hk
        simp only [Bool.and_eq_true, decide_eq_true_eq] at hb
        obtain ⟨h1, h2⟩ := hb
        obtain ⟨t, e1, e2, e3, e4⟩ := mt_of h2
        obtain ⟨g, hG, hc, hm⟩ := ok.g.mts j t e1
        rw [e2] at hm
        rw [e3] at hc hm
        rw [e4] at hm
        obtain ⟨p, gg, fd, q, jj, hp, F, hj, hbi⟩ := hm
        obtain ⟨a, rfl, ha⟩ := one_of (X := X) h'
        exact s_prp (hG (by rw [e2]; decide)) hc hp F (ok.g.room.mono hj) hbi (ie.one ok tk ha) (base_of h1)
      · cases hk
    | mk j =>
      simp only [kOp] at hk
      split at hk
      · rename_i x px y ys p
        obtain ⟨hb, rfl⟩ := okOpt hk
        simp only [Bool.and_eq_true, decide_eq_true_eq] at hb
        obtain ⟨⟨⟨h1, h2⟩, h3⟩, h4⟩ := hb
        split at h3
        · rename_i t e1
          simp only [Bool.and_eq_true, decide_eq_true_eq] at h3
          obtain ⟨e2, e4⟩ := h3
          obtain ⟨g, hG, hc, hm⟩ := ok.g.mts j t e1
          rw [e2] at hm
          obtain ⟨a, fd, ps, s, jj, s', M, hmg, F, hj, hbi, rfl, imp⟩ := hm
          simp only [List.all_cons, Bool.and_eq_true] at h4
          rw [e4] at hmg
          exact s_mk (hG (by rw [e2]; decide)) M F (ok.g.room.mono hj) (ok.gl h1) hmg hbi tk imp (i ok tk h') (okName_of h2).1 (star_of h4.1) (back_of h4.2)
        · cases h3
      · cases hk
    | dnil =>
      simp only [kOp] at hk
      split at hk
      · cases hk
        cases es with
        | nil => exact s_dnil
        | cons _ _ => cases h'
      · cases hk
    | srt =>
      simp only [kOp] at hk
      split at hk
      · obtain ⟨hb, rfl⟩ := okOpt hk
        simp only [Bool.and_eq_true, decide_eq_true_eq] at hb
        obtain ⟨⟨h1, rfl⟩, h3⟩ := hb
        obtain ⟨a, rfl, ha⟩ := one_of (X := X) h'
        exact s_srt ok.g.room (ok.gl h1) (ok.g.blt _ (by decide +kernel)) (ie.one ok tk ha) (star_of h3)
      · cases hk
    | srtK f =>
      simp only [kOp] at hk
      split at hk
      · obtain ⟨hb, rfl⟩ := okOpt hk
        simp only [Bool.and_eq_true, decide_eq_true_eq] at hb
        obtain ⟨⟨⟨⟨⟨⟨h1, rfl⟩, h3⟩, rfl⟩, h5⟩, h6⟩, h7⟩ := hb
        obtain ⟨a, rfl, ha⟩ := one_of (X := X) h'
        obtain ⟨g, hg⟩ := ht f _ h7
        exact s_srtK hg (ok.g.fns f _ g h7 hg) ok.g.room1 (ok.gl h1) (ok.g.blt _ (by decide +kernel)) (ok.gl h5) (okName_of h6).1 (ie.one ok tk ha) (star_of h3)
      · cases hk
    | isT =>
      simp only [kOp] at hk
      split at hk
      · cases hk
        obtain ⟨a, rfl, ha⟩ := one_of (X := X) h'
        exact s_isT (ie.one ok tk ha)
      · cases hk
    | notT =>
      simp only [kOp] at hk
      split at hk
      · cases hk
        obtain ⟨a, rfl, ha⟩ := one_of (X := X) h'
        exact s_notT (ie.one ok tk ha)
      · cases hk
theorem z_mth {j cc : Nat} {nm : S} {ob : Ex} {es : Exs} (io : SE c G fld k ob) (i : SA c G fld k es) : SE c G fld k (.mth j cc nm ob es) := fun {X sc fb e W} ok tk h => by
  have h' : kMth c j cc nm (chkE c ob sc fb) (chkA c es sc fb) e = true := h
  unfold kMth at h'
  split at h'
  · rename_i y m ap xs p
    simp only [Bool.and_eq_true, decide_eq_true_eq] at h'
    obtain ⟨⟨⟨⟨⟨⟨⟨h1, h2⟩, h3⟩, h4⟩, h8⟩, h5⟩, h6⟩, h7⟩ := h'
    obtain ⟨t, e1, e2, e3, e4⟩ := mt_of h3
    obtain ⟨g, hG, hc, hm⟩ := ok.g.mts j t e1
    rw [e2] at hm
    rw [e3] at hc hm
    rw [e4] at hm
    obtain ⟨a, fd, ps, hme, F, hbi⟩ := hm
    subst h4
    refine s_mth (hG (by rw [e2]; decide)) hc hme F ok.g.room hbi tk (io ok tk h6) (i ok tk h7) (fun e => ?_) (fun e t he => ?_) (call_line (base_of h1) ?_ h2)
    · subst e
      cases es with
      | nil => rfl
      | cons _ _ => cases h7
    · subst he
      simp only [List.all_cons, Bool.and_eq_true] at h5
      exact ⟨star_of h5.1, back_of h5.2⟩
    · exact mform_of h5 h8
  · cases h'
end
end DL

set_option Elab.async false
set_option linter.all false
set_option maxRecDepth 100000
set_option maxHeartbeats 8000000
namespace DL
open PySem L2
section
variable {c : Cfg} {G : Nat → Option Fn} {fld : Nat → Addr × PySem.Str} {k : Nat}
theorem not_new {m : Ex} (h : isNew m = false) : SN c G fld k m := fun _ _ q _ => by rw [h] at q; cases q
mutual
theorem sndE (ht : inTab G c) : ∀ m : Ex, SE c G fld k m
  | .var i => z_var i
  | .cst d => fun o tk h => snd_cst o h
  | .tup es => z_tup (sndI ht es)
  | .lst es => SN.se rfl (zn_lst (sndI ht es))
  | .bin op a b => z_bin (sndE ht a) (sndE ht b)
  | .neg a => z_neg (sndE ht a)
  | .cmp op a b => z_cmp (sndE ht a) (sndE ht b)
  | .cmp2 op op' a b d => z_cmp2 (sndE ht a) (sndE ht b) (sndE ht d)
  | .notv a => z_notv (sndE ht a)
  | .andv a b => z_andv (sndE ht a) (sndE ht b)
  | .orv a b => z_orv (sndE ht a) (sndE ht b)
  | .ife t a b => z_ife (sndT ht t) (sndE ht a) (sndE ht b)
  | .sub a b => z_sub (sndE ht a) (sndE ht b)
  | .slc a lo hi => z_slc (sndE ht a) (sndO ht lo) (sndO ht hi)
  | .rev a => z_rev (sndE ht a)
  | .call f es => z_call ht (sndL ht es) (sndA ht es)
  | .blt b es => z_blt (sndA ht es)
  | .isi a t => z_isi (sndE ht a)
  | .met t ob (.cons a .nil) => z_met (sndE ht ob) (sndE ht a)
  | .met t ob .nil => fun o tk h => by
    have h' : (metOk t && false) = true := h
    rw [Bool.and_false] at h'
    cases h'
  | .met t ob (.cons a (.cons b r)) => by
    rename_i X sc fb e W
    intro o tk h
    have h' : (metOk t && (false && kMet t (chkE c ob sc fb) (chkE c a sc fb) e)) = true := h
    rw [Bool.false_and, Bool.and_false] at h'
    cases h'
  | .comp p vs it t a => SN.se rfl (zn_comp (sndW ht it) (sndT ht t) (sndE ht a))
  | .own (.slc a lo hi) => z_ownslc (sndE ht a) (sndO ht lo) (sndO ht hi)
  | .own (.var i) => z_own rfl (sndN ht (.var i))
  | .own (.cst i) => z_own rfl (sndN ht (.cst i))
  | .own (.tup i) => z_own rfl (sndN ht (.tup i))
  | .own (.lst i) => z_own rfl (sndN ht (.lst i))
  | .own (.bin .add a b) => z_ownadd (sndE ht a) (sndE ht b)
  | .own (.bin .sub a b) => z_own rfl (sndN ht (.bin .sub a b))
  | .own (.bin .mul a b) => z_own rfl (sndN ht (.bin .mul a b))
  | .own (.bin .fdiv a b) => z_own rfl (sndN ht (.bin .fdiv a b))
  | .own (.bin .mod a b) => z_own rfl (sndN ht (.bin .mod a b))
  | .own (.bin .pow a b) => z_own rfl (sndN ht (.bin .pow a b))
  | .own (.neg i) => z_own rfl (sndN ht (.neg i))
  | .own (.cmp i a b) => z_own rfl (sndN ht (.cmp i a b))
  | .own (.cmp2 i j a b d) => z_own rfl (sndN ht (.cmp2 i j a b d))
  | .own (.notv i) => z_own rfl (sndN ht (.notv i))
  | .own (.andv a b) => z_own rfl (sndN ht (.andv a b))
  | .own (.orv a b) => z_own rfl (sndN ht (.orv a b))
  | .own (.ife i a b) => z_own rfl (sndN ht (.ife i a b))
  | .own (.sub a b) => z_own rfl (sndN ht (.sub a b))
  | .own (.rev a) => z_own rfl (sndN ht (.rev a))
  | .own (.call a b) => z_own rfl (sndN ht (.call a b))
  | .own (.blt a b) => z_own rfl (sndN ht (.blt a b))
  | .own (.isi a b) => z_own rfl (sndN ht (.isi a b))
  | .own (.met a b d) => z_own rfl (sndN ht (.met a b d))
  | .own (.comp a b d e f) => z_own rfl (sndN ht (.comp a b d e f))
  | .own (.own a) => z_own rfl (sndN ht (.own a))
  | .own (.frz a) => z_own rfl (sndN ht (.frz a))
  | .own (.op a b) => z_own rfl (sndN ht (.op a b))
  | .own (.mth a b d e f) => z_own rfl (sndN ht (.mth a b d e f))
  | .frz a => z_frz (sndE ht a)
  | .op o es => z_op ht (sndL ht es) (sndA ht es)
  | .mth i cc nm o es => z_mth (sndE ht o) (sndA ht es)
theorem sndN (ht : inTab G c) : ∀ m : Ex, SN c G fld k m
  | .lst es => zn_lst (sndI ht es)
  | .comp p vs it t a => zn_comp (sndW ht it) (sndT ht t) (sndE ht a)
  | .blt .list (.cons a .nil) => zn_list (sndE ht a)
  | .blt .list .nil => not_new rfl
  | .blt .list (.cons _ (.cons _ _)) => not_new rfl
  | .blt .len _ => not_new rfl
  | .blt .abs _ => not_new rfl
  | .blt .int _ => not_new rfl
  | .blt .tuple _ => not_new rfl
  | .blt .sorted _ => not_new rfl
  | .blt .any _ => not_new rfl
  | .blt .all _ => not_new rfl
  | .blt .sum _ => not_new rfl
  | .blt .max2 _ => not_new rfl
  | .blt .min2 _ => not_new rfl
  | .blt .str _ => not_new rfl
  | .var _ => not_new rfl
  | .cst _ => not_new rfl
  | .tup _ => not_new rfl
  | .bin _ _ _ => not_new rfl
  | .neg _ => not_new rfl
  | .cmp _ _ _ => not_new rfl
  | .cmp2 _ _ _ _ _ => not_new rfl
  | .notv _ => not_new rfl
  | .andv _ _ => not_new rfl
  | .orv _ _ => not_new rfl
  | .ife _ _ _ => not_new rfl
  | .sub _ _ => not_new rfl
  | .slc _ _ _ => not_new rfl
  | .rev _ => not_new rfl
  | .call _ _ => not_new rfl
  | .isi _ _ => not_new rfl
  | .met _ _ _ => not_new rfl
  | .own _ => not_new rfl
  | .frz _ => not_new rfl
  | .op _ _ => not_new rfl
  | .mth _ _ _ _ _ => not_new rfl
theorem sndT (ht : inTab G c) : ∀ m : Ts, ST c G fld k m
  | .and a b => z_tand (sndT ht a) (sndT ht b)
  | .or a b => z_tor (sndT ht a) (sndT ht b)
  | .not a => z_tnot (sndT ht a)
  | .ex (.cmp op a b) => z_excmp (sndE ht a) (sndE ht b)
  | .ex (.cmp2 op op' a b d) => z_excmp2 (sndE ht a) (sndE ht b) (sndE ht d)
  | .ex (.var i) => z_ex (sndE ht (.var i)) rfl
  | .ex (.cst i) => z_ex (sndE ht (.cst i)) rfl
  | .ex (.tup i) => z_ex (sndE ht (.tup i)) rfl
  | .ex (.lst i) => z_ex (sndE ht (.lst i)) rfl
  | .ex (.bin op a b) => z_ex (sndE ht (.bin op a b)) rfl
  | .ex (.neg a) => z_ex (sndE ht (.neg a)) rfl
  | .ex (.notv a) => z_ex (sndE ht (.notv a)) rfl
  | .ex (.andv a b) => z_ex (sndE ht (.andv a b)) rfl
  | .ex (.orv a b) => z_ex (sndE ht (.orv a b)) rfl
  | .ex (.ife t a b) => z_ex (sndE ht (.ife t a b)) rfl
  | .ex (.sub a b) => z_ex (sndE ht (.sub a b)) rfl
  | .ex (.slc a b d) => z_ex (sndE ht (.slc a b d)) rfl
  | .ex (.rev a) => z_ex (sndE ht (.rev a)) rfl
  | .ex (.call a b) => z_ex (sndE ht (.call a b)) rfl
  | .ex (.blt a b) => z_ex (sndE ht (.blt a b)) rfl
  | .ex (.isi a b) => z_ex (sndE ht (.isi a b)) rfl
  | .ex (.met a b d) => z_ex (sndE ht (.met a b d)) rfl
  | .ex (.comp a b d e f) => z_ex (sndE ht (.comp a b d e f)) rfl
  | .ex (.own a) => z_ex (sndE ht (.own a)) rfl
  | .ex (.frz a) => z_ex (sndE ht (.frz a)) rfl
  | .ex (.mth a b d e f) => z_ex (sndE ht (.mth a b d e f)) rfl
  | .ex (.op .isT es) => z_exT false (sndL ht es)
  | .ex (.op .notT es) => z_exT true (sndL ht es)
  | .ex (.op (.att i j f) es) => z_ex (z_op ht (sndL ht es) (sndA ht es)) rfl
  | .ex (.op (.prp i j) es) => z_ex (z_op ht (sndL ht es) (sndA ht es)) rfl
  | .ex (.op (.mk i) es) => z_ex (z_op ht (sndL ht es) (sndA ht es)) rfl
  | .ex (.op .dnil es) => z_ex (z_op ht (sndL ht es) (sndA ht es)) rfl
  | .ex (.op .srt es) => z_ex (z_op ht (sndL ht es) (sndA ht es)) rfl
  | .ex (.op (.srtK f) es) => z_ex (z_op ht (sndL ht es) (sndA ht es)) rfl
  | .yes => fun o tk h => by cases h
theorem sndO (ht : inTab G c) : ∀ m : Ox, SO c G fld k m
  | .none => by
    rename_i X sc fb e W
    intro o tk h
    cases e with
    | none => exact s_onone
    | some _ => cases h
  | .some a => by
    rename_i X sc fb e W
    intro o tk h
    cases e with
    | none => cases h
    | some x => exact s_osome (sndE ht a o tk h)
theorem sndA (ht : inTab G c) : ∀ m : Exs, SA c G fld k m
  | .nil => by
    rename_i X sc fb e W
    intro o tk h
    cases e with
    | nil => exact s_anil
    | cons _ _ => cases h
  | .cons a r => by
    rename_i X sc fb e W
    intro o tk h
    cases e with
    | nil => cases h
    | cons x t =>
      have h' : (notStar x && chkE c a sc fb x && chkA c r sc fb t) = true := h
      simp only [Bool.and_eq_true] at h'
      exact s_acons (sndE ht a o tk h'.1.2) (sndA ht r o tk h'.2) (star_of h'.1.1)
theorem sndL (ht : inTab G c) : ∀ m : Exs, AllE (SE c G fld k) m
  | .nil => .nil
  | .cons a r => .cons (sndE ht a) (sndL ht r)
theorem sndI (ht : inTab G c) : ∀ m : Its, SI c G fld k m
  | .nil => by
    rename_i X sc fb e W
    intro o tk h
    cases e with
    | nil => exact s_inil
    | cons _ _ => cases h
  | .one a r => by
    rename_i X sc fb e W
    intro o tk h
    cases e with
    | nil => cases h
    | cons x t =>
      have h' : (notStar x && chkE c a sc fb x && chkI c r sc fb t) = true := h
      simp only [Bool.and_eq_true] at h'
      exact s_icons (sndE ht a o tk h'.1.2) (sndI ht r o tk h'.2) (star_of h'.1.1)
  | .star a r => by
    rename_i X sc fb e W
    intro o tk h
    cases e with
    | nil => cases h
    | cons x t =>
      have h' : (kStar (chkE c a sc fb) x && chkI c r sc fb t) = true := h
      simp only [Bool.and_eq_true] at h'
      obtain ⟨h1, h2⟩ := h'
      cases x <;> first | (cases h1; done) | exact s_istar (sndE ht a o tk h1) (sndI ht r o tk h2)
theorem sndW (ht : inTab G c) : ∀ m : It, SW c G fld k m
  | .seq a => fun o tk h => s_seq (sndE ht a o tk h)
  | .range1 a => by
    rename_i X sc fb tg e W
    intro o tk h
    obtain ⟨x, px, y, ys, p, rfl, h1, h2, h3, h4⟩ := kCall_inv h
    simp only [Bool.and_eq_true, decide_eq_true_eq] at h1
    obtain ⟨h1, rfl⟩ := h1
    match ys, h2 with
    | [], h2 => exact s_range1 (o.gl h1) (o.g.blt _ (by decide +kernel)) (sndE ht a o tk h2) (star_of h3)
  | .range2 a b => by
    rename_i X sc fb tg e W
    intro o tk h
    obtain ⟨x, px, y, ys, p, rfl, h1, h2, h3, h4⟩ := kCall_inv h
    simp only [Bool.and_eq_true, decide_eq_true_eq] at h1
    obtain ⟨h1, rfl⟩ := h1
    match ys, h2, h4 with
    | [z], h2, h4 =>
      have h2' : (chkE c a sc fb y && chkE c b sc fb z) = true := h2
      simp only [Bool.and_eq_true] at h2'
      simp only [List.all_cons, List.all_nil, Bool.and_true] at h4
      exact s_range2 (o.gl h1) (o.g.blt _ (by decide +kernel)) (sndE ht a o tk h2'.1) (sndE ht b o tk h2'.2) (by rw [star_of h3, star_of h4]; rfl) (star_of h4)
  | .range3 a b s => by
    rename_i X sc fb tg e W
    intro o tk h
    have h0 : (decide (s = -1) && kRng sc (k3 (chkE c a sc fb) (chkE c b sc fb)) e) = true := h
    simp only [Bool.and_eq_true, decide_eq_true_eq] at h0
    obtain ⟨rfl, h⟩ := h0
    obtain ⟨x, px, y, ys, p, rfl, h1, h2, h3, h4⟩ := kCall_inv h
    simp only [Bool.and_eq_true, decide_eq_true_eq] at h1
    obtain ⟨h1, rfl⟩ := h1
    obtain ⟨y', z, j, p1, p2, el, h5, h6⟩ := k3_inv h2
    cases el
    simp only [List.all_cons, Bool.and_eq_true] at h4
    exact s_range3 (o.gl h1) (o.g.blt _ (by decide +kernel)) (sndE ht a o tk h5) (sndE ht b o tk h6) h3 h4.1
  | .enum a => by
    rename_i X sc fb tg e W
    intro o tk h
    have h0 : (isTupE tg && kCall (fun x => glob sc x && decide (x = "enumerate")) (k1 (chkE c a sc fb)) e) = true := h
    simp only [Bool.and_eq_true] at h0
    obtain ⟨ht', h⟩ := h0
    cases tg <;> first | (cases ht'; done) | skip
    obtain ⟨x, px, y, ys, p, rfl, h1, h2, h3, h4⟩ := kCall_inv h
    simp only [Bool.and_eq_true, decide_eq_true_eq] at h1
    obtain ⟨h1, rfl⟩ := h1
    match ys, h2 with
    | [], h2 => exact s_enum (o.gl h1) (o.g.blt _ (by decide +kernel)) (sndE ht a o tk h2) (star_of h3)
  | .zip a b => fun o tk h => by cases h
end
end
end DL

set_option Elab.async false
set_option linter.all false
set_option maxRecDepth 100000
set_option maxHeartbeats 8000000
namespace DL
open PySem L2
section
variable {X : Cx} {c : Cfg} {G : Nat → Option Fn} {fld : Nat → Addr × PySem.Str} {k : Nat} {W : WX} {a b : Expr} {ma mb : Ex} {pos : Pos}
/-! ### x op= e -/
def bopI : BOp → Bool
  | .add => true | .sub => true | _ => false
def rAug : BOp → R2
  | .add => fun x y H Q => rI0 (fun i j => .int (i + j)) x y H Q ∨ rExt2 x y H Q
  | _ => rI0 fun i j => .int (i - j)
theorem op_aug : ∀ op, bopI op = true → OpR X (inplaceOp (bopP op)) (rAug op)
  | .add, _ => iop_add.or iop_ext
  | .sub, _ => iop_sub
theorem aug_ok {K : PySem.W.Frag} {Z F H : Hp} {m : Mu} {op : BOp} {x y : V} {dx dy : DV} {kk : DV → Mu → Prop} {Q : VK} (w : Wf K Z F H m) (rx : RelD K F x dx) (ry : RelD K F y dy) (h : augD op dx dy m kk)
    (q : ∀ d m' v H', kk d m' → Wf K Z F H' m' → RelD K F v d → Q v H') : rAug op x y H Q := by
  unfold augD at h
  split at h
  · split at h
    · cases rx
      cases ry
      exact .inl ⟨_, _, rfl, rfl, q _ m _ H h w (.int _)⟩
    · exact h.elim
  · split at h
    · cases rx
      cases ry
      exact ⟨_, _, rfl, rfl, q _ m _ H h w (.int _)⟩
    · exact h.elim
  · obtain ⟨xs, zs, hx, hy, hl, hk⟩ := h
    cases rx
    obtain ⟨hf, hz, vs, h1, h2, h3⟩ := w.ob _ _ hx
    obtain ⟨bb, us, rfl, g1, g2, g3⟩ := w.lst ry hy
    have l1 := h2.length
    have l2 := g2.length
    refine .inr ⟨_, bb, vs, us, rfl, rfl, h1, g1, by rw [l1, l2, ← LINE_eq]; exact hl, q _ _ _ _ hk (w.set hx ⟨vs ++ us, upd_same, h2.append g2, by rw [List.length_append, l1, l2]; exact hl⟩) (.loc _)⟩
  · exact h.elim
theorem s_aug {i : Nat} {x : PySem.Str} {op : BOp} {px : Pos} (hop : bopI op = true) (hN : X.N.Nodup) (hi : X.N[i]? = some x) (hx : L2.Loc X.env.scope x) (hf : X.fn x = true ∨ X.env.scope.names.lookup x = some .local) (ha : PE X a (tL X.K G fld W ma)) :
    PS X (.AugAssign (.Name x px) (bopP op) a pos) (tLS X.K G fld W (.aug i op ma)) := by
  refine PSimp (ps_aug hN hi hx ha (op_aug op hop) hf) fun D σ H ⟨r, m, Z, F, Dd, w, sl, hq, ok⟩ => ?_
  simp only [rdS] at hq
  obtain ⟨dx, hdx, hq⟩ := hq
  obtain ⟨v, hv, rv⟩ := sl.at_ i dx hdx
  refine ⟨v, hv, ?_⟩
  refine ⟨r, m, Z, F, _, _, w, sl, hq, fun d m1 u H1 F1 q1 e1 w1 r1 => ?_, ok.xok sl⟩
  exact aug_ok w1 (rv.mono e1.sm) r1 q1 fun d m' v' H' hk w' r' => ok.nx _ m' _ H' F1 hk e1 w' ((sl.mono e1.sm).set i r')
def rGetL (K : PySem.W.Frag) : V → V → Hp → VK → Prop := fun o i H Q => ∃ p xs k v, o = .ref p ∧ i = .int k ∧ SqL K H p xs ∧ 0 ≤ k ∧ xs[k.toNat]? = some v ∧ Q v H
theorem get_list : PGet X (rGetL X.K) := by
  intro pins s σ H o i ov iv Q I ro ri h
  obtain ⟨p, xs, kk, v, rfl, rfl, hq, h0, hv, q⟩ := h
  cases ro
  obtain ⟨t, rfl⟩ := ri
  obtain ⟨its, r, pl, hz⟩ := I.list hq
  obtain ⟨u, hu, ru⟩ := r.get hv
  have hlt : kk.toNat < xs.length := (List.getElem?_eq_some_iff.mp hv).1
  have hs : xs.length ≤ 16777216 := by rw [← sizeLine_eq]; exact hz
  exact wpAny_getItem_list pl.isList h0 (by omega) (by simpa using hu) ⟨v, H, I, ru, q⟩
theorem s_saug {o i : Expr} {mo mi : Ex} {op : BOp} {sp : Pos} (hop : bopI op = true) (ho : PE X o (tL X.K G fld W mo)) (hi : PE X i (tL X.K G fld W mi)) (ha : PE X a (tL X.K G fld W ma)) (hs : notSlice i = true) :
    PS X (.AugAssign (.Subscript o i sp) (bopP op) a pos) (tLS X.K G fld W (.saug mo mi op ma)) := by
  refine PSimp (ps_augS ho hi get_list ha (op_aug op hop) set_list (by
    intro ov iv new
    cases i <;> first | (cases hs; done) | rfl)) fun D σ H ⟨r, m, Z, F, Dd, w, sl, hq, ok⟩ => ?_
  simp only [rdS] at hq
  refine ⟨r, m, Z, F, _, _, w, sl, hq, fun d m1 v H1 F1 q1 e1 w1 r1 => ?_, ok.xok sl⟩
  refine ⟨r, m1, Z, F1, _, _, w1, sl.mono e1.sm, q1, fun d2 m2 v2 H2 F2 q2 e2 w2 r2 => ?_, (ok.ext e1).xok (sl.mono e1.sm)⟩
  unfold getD at q2
  split at q2
  · obtain ⟨h0, xs, u, hx, hu, hq⟩ := q2
    obtain ⟨p, vs, rfl, hp, rs, _⟩ := w2.lst (r1.mono e2.sm) hx
    obtain ⟨y, hy, ry⟩ := rs.get hu
    cases r2
    refine ⟨p, vs, _, y, rfl, rfl, SqL.of hp, h0, hy, ?_⟩
    have e12 := e1.trans e2
    refine ⟨r, m2, Z, F2, _, _, w2, sl.mono e12.sm, hq, fun d3 m3 v3 H3 F3 q3 e3 w3 r3 => ?_, (ok.ext e12).xok (sl.mono e12.sm)⟩
    refine aug_ok w3 (ry.mono e3.sm) r3 q3 fun d m' v' H' hk w' r' => ?_
    exact setD_ok w' (r1.mono (e2.trans e3).sm) (.int _) r' hk fun m'' H'' hk' w'' => ok.nx r m'' σ H'' F3 hk' (e12.trans e3) w'' (sl.mono (e12.trans e3).sm)
  · exact q2.elim
end
/-! ### the check of statements -/
def notTup : Expr → Bool
  | .Tuple _ _ _ => false
  | _ => true
/-- y = [..] on one line -/
def lcOk (sc : Scope) (y : PySem.Str) (py : Pos) : Expr → Bool
  | .ListComp _ _ scope ps => isLocal sc y && (py.line == ps.line) && !(scope.names.any fun (n, k) => n == y && (k == .local || k == .cell)) && (match sc.kind with | .function => true | _ => false)
  | _ => false
def kSet (sc : Scope) (lc : Bool) (f g : PEx) : List Expr → Expr → Bool
  | [tg], e => f tg && g e && (match tg with
    | .Name y py => notComp e || (lc && lcOk sc y py e)
    | .Tuple _ _ _ => notComp e && notTup e
    | _ => false)
  | _, _ => false
def kSubset (f g h : PEx) : List Expr → Expr → Bool
  | [.Subscript o i _], e => notComp e && notSlice i && f o && g i && h e
  | _, _ => false
def isLcM : Ex → Bool
  | .comp _ _ _ _ _ => true
  | .own (.comp _ _ _ _ _) => true
  | _ => false
mutual
def chkS (c : Cfg) (sc : Scope) (fb : PySem.Str → Bool) : St → Stmt → Bool
  | .set p e, st => match st with
    | .Assign tgs v _ => kSet sc (isLcM e) (chkP c sc fb p) (chkE c e sc fb) tgs v
    | _ => false
  | .par _ _ _ _, _ => false
  | .aug i op e, st => match st with
    | .AugAssign tg o v _ => bopI op && decide (o = bopP op) && chkP c sc fb (.name i) tg && chkE c e sc fb v
    | _ => false
  | .sub o i e, st => match st with
    | .Assign tgs v _ => kSubset (chkE c o sc fb) (chkE c i sc fb) (chkE c e sc fb) tgs v
    | _ => false
  | .saug o i op e, st => match st with
    | .AugAssign tg o' v _ => bopI op && decide (o' = bopP op) && kSub (chkE c o sc fb) (chkE c i sc fb) tg && chkE c e sc fb v
    | _ => false
  | .exp e, st => match st with
    | .Expr v _ => notComp v && chkE c e sc fb v
    | _ => false
  | .ret e, st => match st with
    | .Return v _ => (match v with | some v => chkE c e sc fb v | none => false)
    | _ => false
  | .retN, st => match st with
    | .Return v _ => v.isNone
    | _ => false
  | .ifs t a b, st => match st with
    | .If q x y _ => chkT c t sc fb q && chkSs c sc fb a x && chkSs c sc fb b y
    | _ => false
  | .fr p it b, st => match st with
    | .For tg iter body els _ => els.isEmpty && notSet iter && chkP c sc fb p tg && chkW c it sc fb tg iter && chkSs c sc fb b body
    | _ => false
  | .whl t b, st => match st with
    | .While q body els _ => els.isEmpty && chkT c t sc fb q && chkSs c sc fb b body
    | _ => false
  | .rse x e, st => (match st with
    | .Raise (some (.Call (.Name y _) [v] [] _)) none _ => glob sc y && okName y && decide (x ∈ c.exs) && decide (y = errName x) && notStar v && chkE c e sc fb v
    | _ => false)
  | .fld o i cc f e, st => (match st with
    | .Assign [.Attribute y nm _] v _ => notComp v && (match (c.mts.lookup i) with | some t => decide (t.kind = 3) && decide (t.cls = cc) && decide (t.name = nm) | none => false) && decide (nm.cps.toList = f) && chkE c o sc fb y && chkE c e sc fb v
    | _ => false)
  | .tryR b hs es, st => (match st with
    | .Try body (h :: r) [] [] _ => kHds c sc hs (h :: r) && es.all (fun q => decide (q ∈ c.exs)) && chkSs c sc fb b body
    | _ => false)
  | .whw i e b, st => (match st with
    | .While (.Compare (.NamedExpr (.Name x px) a _) [.IsNot] [.Constant .none _ _] _) body [] _ => chkP c sc fb (.name i) (.Name x px) && chkE c e sc fb a && chkSs c sc fb b body
    | _ => false)
  | .pass, st => match st with
    | .Pass _ => true
    | _ => false
  | .brk, st => match st with
    | .Break _ => true
    | _ => false
  | .cont, st => match st with
    | .Continue _ => true
    | _ => false
def chkSs (c : Cfg) (sc : Scope) (fb : PySem.Str → Bool) : Sts → List Stmt → Bool
  | .nil, st => st.isEmpty
  | .cons s t, st => match st with
    | x :: r => chkS c sc fb s x && chkSs c sc fb t r
    | [] => false
end
section
variable {c : Cfg} {G : Nat → Option Fn} {fld : Nat → Addr × PySem.Str} {k : Nat}
abbrev SS (c : Cfg) (G : Nat → Option Fn) (fld : Nat → Addr × PySem.Str) (k : Nat) (m : St) : Prop := ∀ (X : Cx) (sc : Scope) (fb : PySem.Str → Bool) (e : Stmt) (W : WX), Ok X c G fld k sc fb → Takes X W → PassesOwn (model X.prog X.w) X.A X.env X.xe → Frm X → chkS c sc fb m e = true → PS X e (tLS X.K G fld W m)
abbrev SSs (c : Cfg) (G : Nat → Option Fn) (fld : Nat → Addr × PySem.Str) (k : Nat) (m : Sts) : Prop := ∀ (X : Cx) (sc : Scope) (fb : PySem.Str → Bool) (e : List Stmt) (W : WX), Ok X c G fld k sc fb → Takes X W → PassesOwn (model X.prog X.w) X.A X.env X.xe → Frm X → chkSs c sc fb m e = true → PSs X e (tLSs X.K G fld W m)
/-- an assigned comprehension: any reading of the comprehension that the lifted one gives -/
theorem comp_asg {X : Cx} {sc : Scope} {fb : PySem.Str → Bool} {W : WX} {i : Nat} {y : PySem.Str} {py pos : Pos} {e : Expr} {m : Ex} (ht : inTab G c) (o : Ok X c G fld k sc fb) (tk : Takes X W) (hi : c.N[i]? = some y) (hl : lcOk sc y py e = true) (hm : isLcM m = true) (hc : chkE c m sc fb e = true) :
    ∃ t, PS X (.Assign [.Name y py] e pos) (tAsg t (gName i)) ∧ ∀ σ H Q, tL X.K G fld W m σ H Q → t σ H Q := by
  cases e <;> first | (cases hl; done) | skip
  rename_i elt gens scope ps
  simp only [lcOk, Bool.and_eq_true, Bool.not_eq_true'] at hl
  obtain ⟨⟨⟨h1, h2⟩, h3⟩, h4⟩ := hl
  have hk : X.env.scope.kind = .function := by
    rw [o.sc]
    split at h4
    · assumption
    · cases h4
  -- the comprehension itself
  have key : ∀ m' : Ex, isNew m' = true → chkE c m' sc fb (.ListComp elt gens scope ps) = true → ∃ t, PS X (.Assign [.Name y py] (.ListComp elt gens scope ps) pos) (tAsg t (gName i)) ∧ ∀ σ H Q, tN X.K G fld W m' σ H Q → t σ H Q := by
    intro m' hm hc
    cases m' <;> first | (cases hm; done) | skip
    · obtain ⟨_, _, z, _⟩ := kLst_inv hc
      cases z
    · rename_i bb es
      obtain ⟨_, _, _, _, _, z, _⟩ := kCall_inv hc
      cases z
    · rename_i p vs it t a
      obtain ⟨elt', tg, iter, ifs, scope', ps', e0, g1, g2, g3, g4, g5, g6, g7, g8⟩ := kComp_inv hc
      cases e0
      have hT : ∀ X' : Cx, X'.K = X.K → Ok X' c G fld k (relS scope sc) (fun x => scope.names.lookup x == some .cell) → PTs X' ifs (tLT X'.K G fld (fun _ _ _ _ => False) t) := fun X' eK o' => by
        simp only [Bool.or_eq_true, Bool.and_eq_true] at g7
        rcases g7 with ⟨g7, g9⟩ | g7
        · cases ifs with
          | cons _ _ => cases g9
          | nil =>
            cases t <;> first | (cases g7; done) | skip
            exact ⟨fun pins s σ H Q I hw => pts_nil.run pins s σ H Q I (by
              obtain ⟨r, m, Z, F, Qd, Ed, w, sl, hq, post, xp⟩ := hw
              exact post true m true H F hq (Ext.refl Z F) w rfl)⟩
        · match ifs, g7 with
          | [q], g7 => exact pts_one (sndT ht t o' takes0 g7)
      have hE : ∀ X' : Cx, X'.K = X.K → Ok X' c G fld k (relS scope sc) (fun x => scope.names.lookup x == some .cell) → PE X' elt (tL X'.K G fld (fun _ _ _ _ => False) a) := fun X' eK o' => sndE ht a o' takes0 g8
      have blk : BlkOk X.N X.env.scope scope (ownOf c.N vs) := by rw [o.g.N, o.sc]; exact blkOk_by g2
      have pg := fun (s : Shared) (H : Hp) (C : Addr) (cl : List (PySem.Str × Addr)) (fp : List Addr) => snd_pat (o.blk s H scope C cl fp) p g6
      have pt := fun (s : Shared) (H : Hp) (C : Addr) (cl : List (PySem.Str × Addr)) (fp : List Addr) => hT (X.blk s H scope (compEnvC scope cl C X.env) fp) rfl (o.blk s H scope C cl fp)
      have pe := fun (s : Shared) (H : Hp) (C : Addr) (cl : List (PySem.Str × Addr)) (fp : List Addr) => hE (X.blk s H scope (compEnvC scope cl C X.env) fp) rfl (o.blk s H scope C cl fp)
      have hW := sndW ht it (tg := tg) o tk g5
      refine ⟨_, ps_setLc (g := gP X.K p) (tt := tLT X.K G fld (fun _ _ _ _ => False) t) (te := tL X.K G fld (fun _ _ _ _ => False) a) o.g.calm o.g.nd (o.at_ hi) (o.isLocal h1) (sw_true hk (o.isLocal h1) h2 h3) hW blk pg pt pe (folded_of g1), ?_⟩
      exact n_comp (W := W) o.g.calm o.g.nd hW blk g3 (fun i hi => by simpa using List.all_eq_true.mp g4 i hi) pg pt pe (folded_of g1)
  have frozen : ∀ (m' : Ex) σ H Q, tL X.K G fld W m' σ H Q → tN X.K G fld W m' σ H Q := fun m' σ H Q ⟨r, m, Z, F, Qd, Ed, w, sl, hq, post, xp⟩ => ⟨r, m, Z, F, Qd, Ed, w, sl, hq, fun d m' v H' F' q e' w' fr => by
    obtain ⟨p, vs, ds, rfl, rfl, hp, hf, hz, hm, rs, hl⟩ := fr
    obtain ⟨w2, e2⟩ := w'.freeze hp hf hz hm
    exact post _ m' _ H' _ q (e'.trans e2) w2 (.lst upd_same (rs.mono e2.sm) hl), xp⟩
  cases m <;> first | (cases hm; done) | skip
  · obtain ⟨t, h1, h2⟩ := key _ rfl hc
    exact ⟨t, h1, fun σ H Q h => h2 σ H Q (frozen _ σ H Q h)⟩
  · rename_i m'
    cases m' <;> first | (cases hm; done) | skip
    have hc' : (true && chkE c (.comp _ _ _ _ _) sc fb (.ListComp elt gens scope ps)) = true := hc
    rw [Bool.true_and] at hc'
    obtain ⟨t, h1, h2⟩ := key _ rfl hc'
    refine ⟨t, h1, fun σ H Q ⟨r, m, Z, F, Qd, Ed, w, sl, hq, post, xp⟩ => h2 σ H Q ?_⟩
    rw [rdE] at hq
    refine ⟨r, m, Z, F, _, Ed, w, sl, hq, fun d m' v H' F' q e' w' fr => ?_, xp⟩
    obtain ⟨p, vs, ds, rfl, rfl, hp, hf, hz, hm, rs, hl⟩ := fr
    have q2 := q p hm
    refine post _ _ _ H' F' q2 e' ⟨w'.sf, w'.sz, fun b u e => ?_⟩ (.loc p)
    unfold Mu.put at e
    by_cases hb : b = p
    · subst hb
      rw [if_pos rfl] at e
      cases e
      exact ⟨hf, hz, vs, hp, rs, hl⟩
    · rw [if_neg hb] at e
      exact w'.ob b u e
theorem swapsSole_of {e t : Expr} {l : Nat} {env : PySem.Env} (h : notComp e = true) : swapsWithSole [t] e l env = pure false := swaps_of h
theorem y_set (ht : inTab G c) {p : Pat} {m : Ex} : SS c G fld k (.set p m) := fun X sc fb e W o tk hp fm h => by
  cases e <;> first | (cases h; done) | skip
  rename_i tgs v pos
  have h' : kSet sc (isLcM m) (chkP c sc fb p) (chkE c m sc fb) tgs v = true := h
  match tgs, h' with
  | [tg], h' =>
    simp only [kSet, Bool.and_eq_true] at h'
    obtain ⟨⟨h1, h2⟩, h3⟩ := h'
    have pe : PE X v (tL X.K G fld W m) := sndE ht m o tk h2
    cases tg <;> first | (cases h3; done) | skip
    · rename_i y py
      cases p with
      | name i =>
        have h1' : (decide (c.N[i]? = some y) && loc sc y && (fb y || isLocal sc y)) = true := h1
        simp only [Bool.and_eq_true, decide_eq_true_eq, Bool.or_eq_true] at h1' h3
        obtain ⟨⟨g1, g2⟩, g3⟩ := h1'
        have hf : X.fn y = true ∨ X.env.scope.names.lookup y = some .local := by
          rcases g3 with z | z
          · exact .inl (o.fb _ z)
          · exact .inr (o.isLocal z)
        rcases h3 with h3 | ⟨h4, h3⟩
        · exact s_setG (pp := .name i) (ps_set o.g.nd (o.at_ g1) (o.loc g2) pe (swaps_of h3) hf) fun σ H Q q => q
        · obtain ⟨t, z1, z2⟩ := comp_asg (pos := pos) ht o tk g1 h3 h4 h2
          exact s_setG (pp := .name i) z1 z2
      | pair a b => cases h1
    · -- a, b = e
      simp only [Bool.and_eq_true] at h3
      refine s_setG (ps_asg pe (snd_pat o p h1) (swapsSole_of h3.1) ?_ ?_) fun σ H Q q => q
      · cases v <;> first | (cases h3.2; done) | rfl
      · rfl
theorem y_aug (ht : inTab G c) {i : Nat} {op : BOp} {m : Ex} : SS c G fld k (.aug i op m) := fun X sc fb e W o tk hp fm h => by
  cases e <;> first | (cases h; done) | skip
  rename_i tg o' v pos
  have h' : (bopI op && decide (o' = bopP op) && chkP c sc fb (.name i) tg && chkE c m sc fb v) = true := h
  simp only [Bool.and_eq_true, decide_eq_true_eq] at h'
  obtain ⟨⟨⟨h1, rfl⟩, h3⟩, h4⟩ := h'
  cases tg <;> first | (cases h3; done) | skip
  rename_i y py
  have h1' : (decide (c.N[i]? = some y) && loc sc y && (fb y || isLocal sc y)) = true := h3
  simp only [Bool.and_eq_true, decide_eq_true_eq, Bool.or_eq_true] at h1'
  obtain ⟨⟨g1, g2⟩, g3⟩ := h1'
  have hf : X.fn y = true ∨ X.env.scope.names.lookup y = some .local := by
    rcases g3 with z | z
    · exact .inl (o.fb _ z)
    · exact .inr (o.isLocal z)
  exact s_aug h1 o.g.nd (o.at_ g1) (o.loc g2) hf (sndE ht m o tk h4)
theorem y_sub (ht : inTab G c) {mo mi m : Ex} : SS c G fld k (.sub mo mi m) := fun X sc fb e W o tk hp fm h => by
  cases e <;> first | (cases h; done) | skip
  rename_i tgs v pos
  have h' : kSubset (chkE c mo sc fb) (chkE c mi sc fb) (chkE c m sc fb) tgs v = true := h
  match tgs, h' with
  | [.Subscript ob i sp], h' =>
    simp only [kSubset, Bool.and_eq_true] at h'
    obtain ⟨⟨⟨⟨h1, h2⟩, h3⟩, h4⟩, h5⟩ := h'
    refine s_subset (ps_asg (sndE ht m o tk h5) (pg_sub (sndE ht mo o tk h3) (sndE ht mi o tk h4) set_list ?_) (swapsSole_of h1) ?_ ?_)
    · intro v
      cases i <;> first | (cases h2; done) | rfl
    · cases v <;> rfl
    · rfl
theorem y_saug (ht : inTab G c) {mo mi m : Ex} {op : BOp} : SS c G fld k (.saug mo mi op m) := fun X sc fb e W o tk hp fm h => by
  cases e <;> first | (cases h; done) | skip
  rename_i tg o' v pos
  have h' : (bopI op && decide (o' = bopP op) && kSub (chkE c mo sc fb) (chkE c mi sc fb) tg && chkE c m sc fb v) = true := h
  simp only [Bool.and_eq_true, decide_eq_true_eq] at h'
  obtain ⟨⟨⟨h1, rfl⟩, h3⟩, h4⟩ := h'
  obtain ⟨x, y, p, rfl, g0, g1, g2⟩ := kSub_inv h3
  exact s_saug h1 (sndE ht mo o tk g1) (sndE ht mi o tk g2) (sndE ht m o tk h4) g0
mutual
theorem sndS (ht : inTab G c) : ∀ m : St, SS c G fld k m
  | .set p e => y_set ht
  | .par _ _ _ _ => fun X sc fb e W o tk hp fm h => by cases h
  | .aug i op e => y_aug ht
  | .sub o i e => y_sub ht
  | .saug o i op e => y_saug ht
  | .exp m => fun X sc fb e W o tk hp fm h => by
    cases e <;> first | (cases h; done) | skip
    rename_i v pos
    have h' : (notComp v && chkE c m sc fb v) = true := h
    simp only [Bool.and_eq_true] at h'
    exact s_exp (ps_expr (sndE ht m o tk h'.2) (swaps_of h'.1))
  | .ret m => fun X sc fb e W o tk hp fm h => by
    cases e <;> first | (cases h; done) | skip
    rename_i v pos
    cases v with
    | none => cases h
    | some v => exact s_ret (sndE ht m o tk h)
  | .retN => fun X sc fb e W o tk hp fm h => by
    cases e <;> first | (cases h; done) | skip
    rename_i v pos
    cases v with
    | some _ => cases h
    | none => exact s_retN
  | .ifs t a b => fun X sc fb e W o tk hp fm h => by
    cases e <;> first | (cases h; done) | skip
    rename_i q x y pos
    have h' : (chkT c t sc fb q && chkSs c sc fb a x && chkSs c sc fb b y) = true := h
    simp only [Bool.and_eq_true] at h'
    exact s_ifs (sndT ht t o tk h'.1.1) (sndSs ht a X sc fb x W o tk hp fm h'.1.2) (sndSs ht b X sc fb y W o tk hp fm h'.2)
  | .fr p it b => fun X sc fb e W o tk hp fm h => by
    cases e <;> first | (cases h; done) | skip
    rename_i tg iter body els pos
    have h' : (els.isEmpty && notSet iter && chkP c sc fb p tg && chkW c it sc fb tg iter && chkSs c sc fb b body) = true := h
    simp only [Bool.and_eq_true] at h'
    obtain ⟨⟨⟨⟨h1, h2⟩, h3⟩, h4⟩, h5⟩ := h'
    cases els with
    | cons _ _ => cases h1
    | nil => exact s_for hp o.g.calm (sndW ht it o tk h4) (snd_pat o p h3) (sndSs ht b X sc fb body W o tk hp fm h5) (folded_of h2)
  | .whl t b => fun X sc fb e W o tk hp fm h => by
    cases e <;> first | (cases h; done) | skip
    rename_i q body els pos
    have h' : (els.isEmpty && chkT c t sc fb q && chkSs c sc fb b body) = true := h
    simp only [Bool.and_eq_true] at h'
    obtain ⟨⟨h1, h2⟩, h3⟩ := h'
    cases els with
    | cons _ _ => cases h1
    | nil => exact s_whl hp (sndT ht t o tk h2) (sndSs ht b X sc fb body W o tk hp fm h3)
  | .rse x m => fun X sc fb e W o tk hp fm h => by
    simp only [chkS] at h
    split at h
    · rename_i y py v cp rp
      simp only [Bool.and_eq_true, decide_eq_true_eq] at h
      obtain ⟨⟨⟨⟨⟨h1, h2⟩, h3⟩, rfl⟩, h5⟩, h6⟩ := h
      obtain ⟨hk, E⟩ := o.g.exs x h3
      exact s_rse E (o.gl h1) (o.g.room.mono hk) o.g.calm tk (sndE ht m o tk h6) h5 (okName_of h2).1
    · cases h
  | .fld ob i cc f m => fun X sc fb e W o tk hp fm h => by
    simp only [chkS] at h
    split at h
    · rename_i y nm ap v ps
      simp only [Bool.and_eq_true, decide_eq_true_eq] at h
      obtain ⟨⟨⟨⟨h1, h2⟩, rfl⟩, h4⟩, h5⟩ := h
      obtain ⟨t, e1, e2, e3, e4⟩ := mt_of h2
      obtain ⟨g, _, hc, hm⟩ := o.g.mts i t e1
      rw [e2] at hm
      rw [e3] at hc hm
      rw [e4] at hm
      exact s_fld hc hm (sndE ht ob o tk h4) (sndE ht m o tk h5) (swaps_of h1)
    · cases h
  | .tryR b hs es => fun X sc fb e W o tk hp fm h => by
    simp only [chkS] at h
    split at h
    · rename_i body h0 r ps
      simp only [Bool.and_eq_true] at h
      exact s_try o fm tk h.1.1 h.1.2 fun W' pn xe tk' hp' => sndSs ht b _ sc fb body W' (o.tr pn xe) tk' hp' ⟨fm.st, fm.fr⟩ h.2
    · cases h
  | .whw i m b => fun X sc fb e W o tk hp fm h => by
    simp only [chkS] at h
    split at h
    · rename_i x px a p1 j p2 p body ps
      simp only [Bool.and_eq_true] at h
      obtain ⟨⟨h1, h2⟩, h3⟩ := h
      have h1' : (decide (c.N[i]? = some x) && loc sc x && (fb x || isLocal sc x)) = true := h1
      simp only [Bool.and_eq_true, decide_eq_true_eq, Bool.or_eq_true] at h1'
      obtain ⟨⟨g1, g2⟩, g3⟩ := h1'
      have hf : X.fn x = true ∨ X.env.scope.names.lookup x = some .local := by
        rcases g3 with z | z
        · exact .inl (o.fb _ z)
        · exact .inr (o.isLocal z)
      exact s_whw hp o.g.nd (o.at_ g1) (o.loc g2) hf (sndE ht m o tk h2) (sndSs ht b X sc fb body W o tk hp fm h3)
    · cases h
  | .pass => fun X sc fb e W o tk hp fm h => by
    cases e <;> first | (cases h; done) | exact s_pass
  | .brk => fun X sc fb e W o tk hp fm h => by
    cases e <;> first | (cases h; done) | exact s_brk
  | .cont => fun X sc fb e W o tk hp fm h => by
    cases e <;> first | (cases h; done) | exact s_cont
theorem sndSs (ht : inTab G c) : ∀ m : Sts, SSs c G fld k m
  | .nil => fun X sc fb e W o tk hp fm h => by
    cases e with
    | nil => exact s_nil
    | cons _ _ => cases h
  | .cons s t => fun X sc fb e W o tk hp fm h => by
    cases e with
    | nil => cases h
    | cons x r =>
      have h' : (chkS c sc fb s x && chkSs c sc fb t r) = true := h
      simp only [Bool.and_eq_true] at h'
      exact s_cons (sndS ht s X sc fb x W o tk hp fm h'.1) (sndSs ht t X sc fb r W o tk hp fm h'.2)
end
/-! ### a def -/
/-- one def in the table, whatever runs around -/
structure FnT (P : Program) (w : World) (K : PySem.W.Frag) (mg : PySem.Str → Option Value) (base : Heap) (fld : Nat → Addr × PySem.Str) (k : Nat) (x : PySem.Str × List PySem.Str) (f : Fn) : Prop where
  ex : FnEx P w K mg base fld k x f
/-- what a def's body may lean on -/
structure Tab (P : Program) (w : World) (K : PySem.W.Frag) (mg : PySem.Str → Option Value) (base : Heap) (fld : Nat → Addr × PySem.Str) (k : Nat) (c : Cfg) (G : Nat → Option Fn) : Prop where
  all : ∀ (f : Nat) (x : PySem.Str × List PySem.Str), (c.fns.lookup f) = some x → ∃ g, G f = some g ∧ FnT P w K mg base fld k x g
  blt : ∀ x ∈ bltNames, mg x = none
  gls : ∀ x d, c.gls.lookup x = some d → ∃ v u, mg x = some u ∧ RelV v u ∧ ∀ F, RelD K F v d
  mts : ∀ i x, (c.mts.lookup i) = some x → ∃ g, (x.kind < 3 → G (MT + i) = some g) ∧ MtEx P w K mg base fld k x g
  exs : ∀ e, e ∈ c.exs → 2 ≤ k ∧ ErrT P w K mg base fld (errName e) e
  exm : ∀ e e', e ∈ c.exs → e' ∈ c.exs → PySem.W.exmOne K (.ref (fld e).1) (.ref (fld e').1) = some (e == e')
  efl : ∀ e, (fld e).2 = errField e
theorem slots_start {K : PySem.W.Frag} {F : Hp} {N : List PySem.Str} {vs : List V} {ds : List DV} (r : RelDs K F vs ds) : Slots K F (L2.start N vs) (ds.map some ++ List.replicate (N.length - ds.length) none) := by
  have hl := r.length
  refine ⟨by unfold L2.start; simp [hl], fun i d h => ?_⟩
  by_cases hi : i < ds.length
  · rw [List.getElem?_append_left (by simpa using hi), List.getElem?_map] at h
    obtain ⟨x, hx, e⟩ := Option.map_eq_some_iff.mp h
    cases e
    obtain ⟨y, hy, ry⟩ := r.get hx
    exact ⟨y, by unfold L2.start; rw [List.getElem?_append_left (by simpa [hl] using hi), List.getElem?_map, hy]; rfl, ry⟩
  · rw [List.getElem?_append_right (by simpa using hi)] at h
    rw [List.getElem?_replicate] at h
    split at h <;> cases h
section
variable {P : Program} {w : World} {K : PySem.W.Frag} {mg : PySem.Str → Option Value} {base : Heap} {x qual : PySem.Str} {st : Stmt} {f : Addr} {fd : FuncData} {ps : List PySem.Str} {c : Cfg} {body : Sts}
theorem fn_pss (F : Fun K x qual st f fd) (S : FnScope c.N ps (defScope st)) (T : Tab P w K mg base fld k c G) (hc : chkSs c (defScope st) (fun _ => true) body (defBody st) = true)
    (cdv : Value) (A : Around) (outer : List PySem.Env) (s : Shared) (H : Hp) (E : XK) (hr : Room (k + 1) (A.deeper (PyProof.Rows.envOfC qual (defScope st) s.heap.objs.size f cdv))) :
    PSs (cxOf (L2.CX P w) P w K mg base c.N qual (defScope st) f cdv A outer s H E) (defBody st) (tLSs K G fld (fun cls d _ H' => E cls d H') body) := by
  have ht : inTab G c := fun f x h => let ⟨g, h1, _⟩ := T.all f x h; ⟨g, h1⟩
  have o : Ok (cxOf (L2.CX P w) P w K mg base c.N qual (defScope st) f cdv A outer s H E) c G fld k (defScope st) (fun _ => true) :=
    ⟨⟨rfl, S.nd, rfl, hr, fun f x g h1 h2 => by
      obtain ⟨g', h3, h4⟩ := T.all f x h1
      rw [h2] at h3
      cases h3
      exact ⟨h4.ex⟩, T.blt, T.mts, T.exs, T.exm, T.efl⟩, rfl, fun _ _ => rfl, T.gls⟩
  exact sndSs ht body _ _ _ _ _ o (takes_of rfl rfl rfl rfl) (passes_of rfl) ⟨rfl, rfl⟩ hc
theorem fn_pure (F : Fun K x qual st f fd) (S : FnScope c.N ps (defScope st)) (T : Tab P w K mg base fld k c G) (hc : chkSs c (defScope st) (fun _ => true) body (defBody st) = true) {s : PSp} (hl : ∀ ds Qd Ed, s ds Qd Ed → ds.length = ps.length)
    (h : ∀ ds Qd Ed, s ds Qd Ed → rdF G c.N.length body ds Mu.nil (fun d _ => Qd d) (fun x _ => Ed x)) : FnOk P w K mg base (L2.CX P w) (k + 2) f fd ps (spP K fld s) := by
  refine F.okX S (fun vs H Q E hs => ?_) (fun cdv A outer sh H vs Q E hr hs => ⟨_, fn_pss F S T hc cdv A outer sh H E hr, ?_⟩)
  · obtain ⟨ds, F, Qd, Ed, _, r, q, _⟩ := hs
    rw [r.length]
    exact hl ds Qd Ed q
  · obtain ⟨ds, F, Qd, Ed, sb, r, q, p1, p2⟩ := hs
    refine ⟨_, Mu.nil, H, F, _, ⟨sb, fun _ _ h => h, fun p o e => by cases e⟩, slots_start r, h ds Qd Ed q, ?_⟩
    refine ⟨fun r' m' σ' H' F' hq e' w' s' => p1 .non .non H' F' hq e' w'.sf w'.sz .non, fun d m' v H' F' hq e' w' rd => p1 d v H' F' hq e' w'.sf w'.sz rd, fun _ _ _ _ _ h => h.elim, fun _ _ _ _ _ h => h.elim, fun x r' m' σ' H' F' cls dd hq e' w' s' er => p2 x H' F' cls dd hq e' w'.sf w'.sz ?_⟩
    obtain ⟨y1, dx, v, y2, y3, y4, y5, y6, y7⟩ := er
    exact ⟨y1, dx, v, y2, y3, y4, y5, rfl, y7⟩
theorem fn_gen (F : Fun K x qual st f fd) (S : FnScope c.N ps (defScope st)) (T : Tab P w K mg base fld k c G) (hc : chkSs c (defScope st) (fun _ => true) body (defBody st) = true) {s : FSp} (hl : ∀ ds m Qd Ed, s ds m Qd Ed → ds.length = ps.length)
    (h : ∀ ds m Qd Ed, s ds m Qd Ed → rdF G c.N.length body ds m Qd Ed) : FnOk P w K mg base (L2.CX P w) (k + 2) f fd ps (spG K fld s) := by
  refine F.okX S (fun vs H Q E hs => ?_) (fun cdv A outer sh H vs Q E hr hs => ⟨_, fn_pss F S T hc cdv A outer sh H E hr, ?_⟩)
  · obtain ⟨ds, m, Z, F, Qd, Ed, _, r, q, _⟩ := hs
    rw [r.length]
    exact hl ds m Qd Ed q
  · obtain ⟨ds, m, Z, F, Qd, Ed, w', r, q, p1, p2⟩ := hs
    refine ⟨_, m, Z, F, _, w', slots_start r, h ds m Qd Ed q, ?_⟩
    exact ⟨fun r' m' σ' H' F' hq e' w' s' => p1 .non m' .non H' F' hq e' w' .non, fun d m' v H' F' hq e' w' rd => p1 d m' v H' F' hq e' w' rd, fun _ _ _ _ _ h => h.elim, fun _ _ _ _ _ h => h.elim, fun x r' m' σ' H' F' cls dd hq e' w' s' er => p2 x m' H' F' cls dd hq e' w' er⟩
end
end
end DL

set_option linter.all false
namespace DL
/-- called by keywords: the values stand in the def's order by pm -/
def kwP (pm : List Nat) (n : Nat) (s : PSp) : PSp := fun ds Q E => ds.length = n ∧ s (pm.map fun i => ds.getD i .non) Q E
def kwG (pm : List Nat) (n : Nat) (s : FSp) : FSp := fun ds m Q E => ds.length = n ∧ s (pm.map fun i => ds.getD i .non) m Q E
def kwF (pm : List Nat) (n : Nat) : Fn → Fn
  | .pure s => .pure (kwP pm n s)
  | .gen s => .gen (kwG pm n s)
end DL

set_option Elab.async false
set_option linter.all false
set_option maxRecDepth 100000
set_option maxHeartbeats 2000000
/-! DLH: what a law's head leaves: defs, classes, errors, by facts; the table that grows def by def -/
namespace DL
open PySem PySem.Spec PyProof.Rows L2
/-! ### a def, wherever it stands -/
structure DefX where
  at_ : PySem.W.Frag → Addr
  name : PySem.Str
  qual : PySem.Str
  st : Stmt
def fnX (K : PySem.W.Frag) (a : Addr) : He.FnW := match K.lookup a with
  | some ⟨_, _, .func fd, _⟩ => some (fd.name, fd.qualname, fd.params, fd.body, fd.scope, fd.globals, fd.closure, fd.builtins)
  | _ => none
def DefX.val (d : DefX) : He.FnW := some (d.name, d.qual, defArgs d.st, .stmts (defBody d.st), defScope d.st, mainGlobals, [], builtinsNs)
def DefX.ok (K : PySem.W.Frag) (d : DefX) : Bool := PySem.W.keepIn K (.ref (d.at_ K)) && (match K.lookup (d.at_ K) with
  | some ⟨_, _, .func fd, _⟩ => PySem.W.codeIn K fd.code d.qual && (He.dflB K fd.defaults [] && He.kwdB K fd.kwdefaults [])
  | _ => false)
theorem DefX.funD {K : PySem.W.Frag} {d : DefX} (e : fnX K (d.at_ K) = d.val) (c : d.ok K = true) : ∃ fd, FunD K d.name d.qual (defArgs d.st) (defBody d.st) (defScope d.st) [] [] (d.at_ K) fd := by
  obtain ⟨kp, c2⟩ := He.ba c
  unfold fnX at e
  cases q : K.lookup (d.at_ K) with
  | none =>
    rw [q] at c2
    cases c2
  | some o =>
    obtain ⟨oc, od, dt, osl⟩ := o
    rw [q] at c2 e
    cases dt with
    | func fd =>
      obtain ⟨n1, n2, n3, n4, n5, n6, n7, n8, n9, n10, n11, n12, n13, n14, n15⟩ := fd
      have e2 : (some (n1, n2, n3, n4, n5, n6, n7, n15) : He.FnW) = some (d.name, d.qual, defArgs d.st, .stmts (defBody d.st), defScope d.st, mainGlobals, [], builtinsNs) := e
      simp only [Option.some.injEq, Prod.mk.injEq] at e2
      obtain ⟨h1, h2, h3, h4, h5, h6, h7, h8⟩ := e2
      subst h1 h2 h3 h4 h5 h6 h7 h8
      have c3 : (PySem.W.codeIn K n13 d.qual && (He.dflB K n8 [] && He.kwdB K n9 [])) = true := c2
      obtain ⟨k1, k2⟩ := He.ba c3
      obtain ⟨k3, k4⟩ := He.ba k2
      exact ⟨_, ⟨oc, od, n8, n9, n10, n11, n12, n13, n14, osl, rfl, q, k1, He.dflB_ok k3, He.kwdB_ok k4⟩, kp⟩
    | _ => cases c2
abbrev AlX : Type := Bool × List He.FnW
def obsX (fs : List (PySem.W.Frag → Bool)) (fn : List DefX) (K : PySem.W.Frag) : AlX := ((fs.all fun f => f K) && fn.all fun d => d.ok K, fn.map fun d => fnX K (d.at_ K))
def valX (fn : List DefX) : AlX := (true, fn.map DefX.val)
def SaysX (fs : List (PySem.W.Frag → Bool)) (fn : List DefX) (K : PySem.W.Frag) : Prop := obsX fs fn K = valX fn
def obsXG (n : Nat) (fs : List (PySem.W.Frag → Bool)) (fn : List DefX) (g : Addr → Option Obj) : AlX := obsX fs fn (He.frG g (cStatics :: He.asD g n))
def hookX (n : Nat) (fs : List (PySem.W.Frag → Bool)) (fn : List DefX) : PySem.W.Hook where
  α := AlX
  obs := fun s => obsXG n fs fn s.heap.get?
  val := fun _ => valX fn
  says := fun _ h => ∃ K : PySem.W.Frag, K.In h ∧ SaysX fs fn K
  of := fun _ _ e => ⟨_, He.frG_in, e⟩
  keeps := fun _ _ _ ⟨K, hK, c⟩ k => ⟨K, PySem.W.Frag.In.keeps hK k, c⟩
theorem obsXG_eq {n : Nat} {fs : List (PySem.W.Frag → Bool)} {fn : List DefX} {g : Addr → Option Obj} {s : Shared} (h : ∀ a, g a = s.heap.get? a) : obsXG n fs fn g = (hookX n fs fn).obs s := by
  have e : g = s.heap.get? := funext h
  rw [e] <;> rfl
section
variable {fs : List (PySem.W.Frag → Bool)} {fn : List DefX} {K : PySem.W.Frag}
theorem SaysX.fact (c : SaysX fs fn K) (i : Nat) {f : PySem.W.Frag → Bool} (h : fs[i]? = some f) : f K = true := by
  have c1 := (He.ba (show ((fs.all fun f => f K) && fn.all fun d => d.ok K) = true from congrArg (fun z : AlX => z.1) c)).1
  exact List.all_eq_true.mp c1 f (List.mem_of_getElem? h)
theorem SaysX.def_ (c : SaysX fs fn K) (i : Nat) {d : DefX} (h : fn[i]? = some d) : ∃ fd, FunD K d.name d.qual (defArgs d.st) (defBody d.st) (defScope d.st) [] [] (d.at_ K) fd := by
  have c2 := (He.ba (show ((fs.all fun f => f K) && fn.all fun d => d.ok K) = true from congrArg (fun z : AlX => z.1) c)).2
  have e : fn.map (fun d => fnX K (d.at_ K)) = fn.map DefX.val := congrArg (fun z : AlX => z.2) c
  have e2 : (fn.map fun d => fnX K (d.at_ K))[i]? = (fn.map DefX.val)[i]? := by rw [e]
  rw [List.getElem?_map, List.getElem?_map, h] at e2
  exact DefX.funD (Option.some.inj e2) (List.all_eq_true.mp c2 d (List.mem_of_getElem? h))
end
theorem fun_of {K : PySem.W.Frag} {x qual : PySem.Str} {st : Stmt} {kws : List (PySem.Str × V)} {f : Addr} {fd : FuncData} (F : FunD K x qual (defArgs st) (defBody st) (defScope st) [] kws f fd) : Fun K x qual st f fd := by
  obtain ⟨oc, od, dV, kV, doc, pm, an, cdv, ct, osl, e, lk, hcd, hD, hK⟩ := F.ex
  rcases hD with ⟨_, rfl⟩ | ⟨h, _⟩
  · exact ⟨⟨oc, od, kV, doc, pm, an, cdv, ct, osl, e, lk, hcd⟩, F.kp⟩
  · exact absurd rfl h
/-! ### places and facts -/
def aG (x : PySem.Str) (K : PySem.W.Frag) : Addr := He.ga K x
def aM (c m : PySem.Str) (K : PySem.W.Frag) : Addr := He.ma K (He.ga K c) m
/-- a property's getter -/
def aP (c m : PySem.Str) (K : PySem.W.Frag) : Addr := match PySem.W.recIn K (He.ma K (He.ga K c) m) "property" with
  | some (.ref g :: _) => g
  | _ => 0
def fGlo (x : PySem.Str) (K : PySem.W.Frag) : Bool := (He.Fa.glo x).ok K
def fFree (x : PySem.Str) (K : PySem.W.Frag) : Bool := (He.Fa.free x).ok K
def fInt (x : PySem.Str) (i : Int) (K : PySem.W.Frag) : Bool := (He.Fa.int x i).ok K
def fStr (x z : PySem.Str) (K : PySem.W.Frag) : Bool := (He.Fa.str x z).ok K
def fCls (x : PySem.Str) (K : PySem.W.Frag) : Bool := (He.Fa.cls x).ok K
def fNoat (x f : PySem.Str) (K : PySem.W.Frag) : Bool := (He.Fa.noat x f).ok K
def fMeth (x f : PySem.Str) (K : PySem.W.Frag) : Bool := (He.Fa.meth x f).ok K
def fMkr (x : PySem.Str) (K : PySem.W.Frag) : Bool := (He.Fa.mkr x).ok K
def fExm (x y : PySem.Str) (b : Bool) (K : PySem.W.Frag) : Bool := (He.Fa.exm x y b).ok K
def fProp (c m : PySem.Str) (K : PySem.W.Frag) : Bool := decide (PySem.W.findIn K (.ref (He.ga K c)) m = some (some (.ref (He.ma K (He.ga K c) m)))) && (decide (PySem.W.specialIn K (.ref (He.ma K (He.ga K c) m)) "__get__" = some (some (.builtin "property.__get__"))) &&
  (decide (PySem.W.takesIn K (.ref (He.ma K (He.ga K c) m)) = some true) && (match PySem.W.recIn K (He.ma K (He.ga K c) m) "property" with
    | some (.ref _ :: _) => true
    | _ => false)))
theorem fProp_ok {c m : PySem.Str} {K : PySem.W.Frag} (h : fProp c m K = true) : PropOf K (He.ga K c) m (He.ma K (He.ga K c) m) (aP c m K) := by
  obtain ⟨h1, h⟩ := He.ba h
  obtain ⟨h2, h⟩ := He.ba h
  obtain ⟨h3, h4⟩ := He.ba h
  refine ⟨of_decide_eq_true h1, of_decide_eq_true h2, of_decide_eq_true h3, ?_⟩
  unfold aP
  split at h4
  · rename_i g r e
    exact ⟨r, e⟩
  · cases h4
def oexB (K : PySem.W.Frag) (C : Addr) : Bool := (match K.lookup C with
    | some ⟨.type "type", _, .cls cd, sl⟩ => (match cd.mro, sl.toList with
      | .ref C' :: bm, [_, _, _, _, some (.builtin n), _] => C' == C && n == "ValueError.__new__" && !cd.hasDel && cd.hasDict && PySem.HandSPX.refsVE bm
      | _, _ => false)
    | _ => false) && (decide (PySem.W.findIn K (.ref C) "__setattr__" = some (some (.builtin "object.__setattr__"))) && (decide (PySem.W.subIn K (.ref C) (.type "BaseException") = some true) && (decide (PySem.W.typeIn K (.ref C) = some (.type "type")) && PySem.W.keepIn K (.ref C))))
theorem oexB_ok {K : PySem.W.Frag} {C : Addr} (h : oexB K C = true) : OexC K C := by
  obtain ⟨q, h⟩ := He.ba h
  obtain ⟨h1, h⟩ := He.ba h
  obtain ⟨h2, h⟩ := He.ba h
  obtain ⟨h3, h4⟩ := He.ba h
  refine ⟨?_, of_decide_eq_true h1, of_decide_eq_true h2, of_decide_eq_true h3, h4⟩
  split at q
  · rename_i dd cd sl ho
    split at q
    · rename_i C' bm k0 k1 k2 k3 n k5 hm hs
      simp only [Bool.and_eq_true, beq_iff_eq, Bool.not_eq_true'] at q
      obtain ⟨⟨⟨⟨rfl, rfl⟩, hdel⟩, hdi⟩, ht⟩ := q
      obtain ⟨nm, bs, mro, ns, qn, hd, sn, sub, ab, col, del⟩ := cd
      dsimp only at hm hdel hdi
      subst hm hdel hdi
      have hsl : sl = #[k0, k1, k2, k3, some (.builtin "ValueError.__new__"), k5] := by
        obtain ⟨l⟩ := sl
        simp only at hs
        rw [hs]
      subst hsl
      exact ⟨nm, qn, ns, bs, bm, sn, sub, ab, col, dd, k0, k1, k2, k3, k5, ho, ht⟩
    · cases q
  · cases q
/-- an error's class: its __init__ is a def, its field is no attribute of the class -/
def fErr (x f : PySem.Str) (K : PySem.W.Frag) : Bool := oexB K (He.ga K x) && (decide (PySem.W.findIn K (.ref (He.ga K x)) f = some none) && (xfB K (He.ga K x) && (decide (PySem.W.findIn K (.ref (He.ga K x)) "__init__" = some (some (.ref (He.ma K (He.ga K x) "__init__")))) && decide (PySem.W.typeIn K (.ref (He.ma K (He.ga K x) "__init__")) = some (.type "function")))))
/-- the base of the errors: its own __init__ is ValueError's -/
def isVE (o : Option PySem.W.CFound) : Bool := match o with
  | some (.val v) => decide (v = .builtin "ValueError.__init__")
  | _ => false
theorem isVE_ok {o : Option PySem.W.CFound} (h : isVE o = true) : o = some (.val (.builtin "ValueError.__init__")) := by
  unfold isVE at h
  split at h
  · rw [of_decide_eq_true h]
  · cases h
def fBase (x : PySem.Str) (K : PySem.W.Frag) : Bool := PySem.W.readsIn K (He.ga K x) (.type "type") && (decide (PySem.W.specialIn K (.ref (He.ga K x)) "__getattribute__" = some (some (.builtin "type.__getattribute__"))) && isVE (PySem.W.findCls K (.ref (He.ga K x)) (.type "type") "__init__"))
theorem fBase_ok {x : PySem.Str} {K : PySem.W.Frag} (h : fBase x K = true) : ClX.CRead K (He.ga K x) (.type "type") ∧ PySem.W.findCls K (.ref (He.ga K x)) (.type "type") "__init__" = some (.val (.builtin "ValueError.__init__")) := by
  obtain ⟨h1, h⟩ := He.ba h
  obtain ⟨h2, h3⟩ := He.ba h
  exact ⟨⟨h1, of_decide_eq_true h2⟩, isVE_ok h3⟩
/-! ### the errors -/
/-- where the errors' classes stand -/
def fldK (K : PySem.W.Frag) : Nat → Addr × PySem.Str := fun e => (He.ga K (errName e), errField e)
section
variable {P : Program} {w : World} {K : PySem.W.Frag} {h : Heap} {mg : PySem.Str → Option Value} {base : Heap}
theorem err_ok (X : K.In h) (G : h.Ns mainGlobals mg) {e : Nat} {y qual nm : PySem.Str} {st : Stmt} {fd : FuncData} (g : fGlo (errName e) K = true) (c : fErr (errName e) (errField e) K = true) (gb : fGlo "FactorError" K = true) (cb : fBase "FactorError" K = true)
    (F : FunD K nm qual (defArgs st) (defBody st) (defScope st) [] [] (aM (errName e) "__init__" K) fd) (S : FnScope ["self", y] ["self", y] (defScope st)) (hc : chkXI "FactorError" (errField e) y (defBody st) = true) (hgl : glob (defScope st) "FactorError" = true) (hy : okName y = true)
    (hb : Binds K fd ["self", y] []) : ErrT P w K mg base (fldK K) (errName e) e := by
  obtain ⟨c1, c⟩ := He.ba c
  obtain ⟨c2, c⟩ := He.ba c
  obtain ⟨c3, c⟩ := He.ba c
  obtain ⟨c4, c5⟩ := He.ba c
  obtain ⟨b1, b2⟩ := fBase_ok cb
  exact ⟨He.glo_ok X G g, oexB_ok c1, of_decide_eq_true c2, xfB_ok c3, _, fd, y, of_decide_eq_true c4, of_decide_eq_true c5, xi_ok (fun_of F) S hc hgl (by decide) (okName_of hy).1 (okName_of hy).2.1 (He.glo_ok X G gb) b1 b2, hb⟩
end
/-! ### the table, def by def -/
section
variable {P : Program} {w : World} {K : PySem.W.Frag} {mg : PySem.Str → Option Value} {base : Heap} {fld : Nat → Addr × PySem.Str} {k j : Nat} {c : Cfg} {G : Nat → Option Fn}
theorem FnEx.mono {x : PySem.Str × List PySem.Str} {f : Fn} (h : FnEx P w K mg base fld j x f) (hj : j ≤ k) : FnEx P w K mg base fld k x f := by
  obtain ⟨a, fd, ps, sp, h1, h2, h3, h4⟩ := h
  exact ⟨a, fd, ps, sp, h1, h2, h3.mono hj, h4⟩
theorem MtEx.mono {x : Mt} {f : Fn} (h : MtEx P w K mg base fld j x f) (hj : j ≤ k) : MtEx P w K mg base fld k x f := by
  obtain ⟨hc, h⟩ := h
  refine ⟨hc, ?_⟩
  split at h
  · obtain ⟨p, g, fd, q, i, h1, h2, h3, h4⟩ := h
    exact ⟨p, g, fd, q, i, h1, h2, Nat.le_trans h3 hj, h4⟩
  · obtain ⟨a, fd, ps, h1, h2, h3⟩ := h
    exact ⟨a, fd, ps, h1, h2.mono hj, h3⟩
  · obtain ⟨a, fd, ps, s, i, s', h1, h2, h3, h4, h5, h6, h7⟩ := h
    exact ⟨a, fd, ps, s, i, s', h1, h2, h3, Nat.le_trans h4 hj, h5, h6, h7⟩
  · exact h
theorem Tab.mono (T : Tab P w K mg base fld j c G) (hj : j ≤ k) : Tab P w K mg base fld k c G :=
  ⟨fun f x h => let ⟨g, h1, h2⟩ := T.all f x h; ⟨g, h1, ⟨h2.ex.mono hj⟩⟩, T.blt, T.gls, fun i x h => let ⟨g, h1, h2⟩ := T.mts i x h; ⟨g, h1, h2.mono hj⟩, fun e h => let ⟨h1, h2⟩ := T.exs e h; ⟨Nat.le_trans h1 hj, h2⟩, T.exm, T.efl⟩
/-- the slots' names do not matter -/
theorem Tab.nm (T : Tab P w K mg base fld k c G) (N : List PySem.Str) : Tab P w K mg base fld k { c with N := N } G := ⟨T.all, T.blt, T.gls, T.mts, T.exs, T.exm, T.efl⟩
/-- one def more -/
theorem Tab.fn (T : Tab P w K mg base fld k c G) {f : Nat} {x : PySem.Str × List PySem.Str} {g : Fn} (hg : G f = some g) (h : FnEx P w K mg base fld k x g) : Tab P w K mg base fld k { c with fns := (f, x) :: c.fns } G := by
  refine ⟨fun f' x' h' => ?_, T.blt, T.gls, T.mts, T.exs, T.exm, T.efl⟩
  by_cases e : f' = f
  · subst e
    simp only [List.lookup_cons, beq_self_eq_true] at h'
    cases h'
    exact ⟨g, hg, ⟨h⟩⟩
  · simp only [List.lookup_cons, beq_eq_false_iff_ne.mpr e] at h'
    exact T.all f' x' h'
theorem Tab.mt (T : Tab P w K mg base fld k c G) {i : Nat} {x : Mt} {g : Fn} (hg : x.kind < 3 → G (MT + i) = some g) (h : MtEx P w K mg base fld k x g) : Tab P w K mg base fld k { c with mts := (i, x) :: c.mts } G := by
  refine ⟨T.all, T.blt, T.gls, fun i' x' h' => ?_, T.exs, T.exm, T.efl⟩
  by_cases e : i' = i
  · subst e
    simp only [List.lookup_cons, beq_self_eq_true] at h'
    cases h'
    exact ⟨g, hg, h⟩
  · simp only [List.lookup_cons, beq_eq_false_iff_ne.mpr e] at h'
    exact T.mts i' x' h'
theorem fnE_pos {x : PySem.Str} {a : Addr} {fd : FuncData} {ps : List PySem.Str} {f : Fn} (hm : mg x = some (.ref a)) (hk : PySem.W.keepIn K (.ref a) = true) (F : FnOk P w K mg base (L2.CX P w) j a fd ps (spOf K fld f)) (h : j ≤ k) (hb : Binds K fd ps []) : FnEx P w K mg base fld k (x, []) f :=
  ⟨a, fd, ps, _, hm, hk, F.mono h, .inl ⟨rfl, rfl, hb⟩⟩
theorem vals_getD : ∀ {zs : List V} {ws : List Value} (i : Nat), Vals zs ws → RelV (zs.getD i .non) (ws.getD i .none)
  | _, _, i, .nil => by cases i <;> exact rfl
  | _, _, 0, .cons h _ => h
  | _, _, i + 1, .cons _ t => vals_getD i t
theorem vals_map {zs : List V} {ws : List Value} (r : Vals zs ws) : ∀ pm : List Nat, Vals (pm.map fun i => zs.getD i .non) (pm.map fun i => ws.getD i .none)
  | [] => .nil
  | i :: t => .cons (vals_getD i r) (vals_map r t)
theorem rel_getD {F : Hp} : ∀ {vs : List V} {ds : List DV} (i : Nat), RelDs K F vs ds → RelD K F (vs.getD i .non) (ds.getD i .non)
  | _, _, i, .nil => by cases i <;> exact .non
  | _, _, 0, .cons h _ => h
  | _, _, i + 1, .cons _ t => rel_getD i t
theorem rel_map {F : Hp} {vs : List V} {ds : List DV} (r : RelDs K F vs ds) : ∀ pm : List Nat, RelDs K F (pm.map fun i => vs.getD i .non) (pm.map fun i => ds.getD i .non)
  | [] => .nil
  | i :: t => .cons (rel_getD i r) (rel_map r t)
theorem fnE_kw {x : PySem.Str} {a : Addr} {fd : FuncData} {ps ks : List PySem.Str} {f : Fn} (pm : List Nat) (h0 : ks ≠ []) (hm : mg x = some (.ref a)) (hk : PySem.W.keepIn K (.ref a) = true) (F : FnOk P w K mg base (L2.CX P w) j a fd ps (spOf K fld f)) (h : j ≤ k)
    (hb : ∀ (s : Shared) (ws : List Value), ws.length = ks.length → BindsTo s fd ⟨[], ks.zip ws⟩ (ps.zip (pm.map fun i => ws.getD i .none))) : FnEx P w K mg base fld k (x, ks) (kwF pm ks.length f) := by
  refine ⟨a, fd, ps, _, hm, hk, F.mono h, .inr ⟨h0, fun _ ws => pm.map fun i => ws.getD i .none, fun _ zs => pm.map fun i => zs.getD i .non, ⟨fun s us ws _ hu hw => ?_, fun _ r => vals_map r pm⟩, fun vs H Q E hs => ?_⟩⟩
  · have e : us = [] := List.length_eq_zero_iff.mp hu
    subst e
    exact hb s ws hw
  · cases f with
    | pure s =>
      obtain ⟨ds, F, Qd, Ed, h1, r, ⟨hl, q⟩, h3, h4⟩ := hs
      exact ⟨by rw [r.length]; exact hl, _, F, Qd, Ed, h1, rel_map r pm, q, h3, h4⟩
    | gen s =>
      obtain ⟨ds, m, Z, F, Qd, Ed, h1, r, ⟨hl, q⟩, h3, h4⟩ := hs
      exact ⟨by rw [r.length]; exact hl, _, m, Z, F, Qd, Ed, h1, rel_map r pm, q, h3, h4⟩
/-! a class's things -/
theorem mt_fld {cc : Nat} {nm : PySem.Str} {g : Fn} (h1 : fCls (insName cc) K = true) (h2 : fNoat (insName cc) nm K = true) : MtEx P w K mg base fld k ⟨3, cc, nm⟩ g := ⟨He.cls_ok h1, He.noat_ok h2⟩
theorem mt_prop {cc : Nat} {nm q : PySem.Str} {g : Fn} {fd : FuncData} (h1 : fCls (insName cc) K = true) (h2 : fProp (insName cc) nm K = true) (F : FnOk P w K mg base (L2.CX P w) j (aP (insName cc) nm K) fd [q] (spOf K fld g)) (hj : j + 1 ≤ k) (hb : Binds K fd [q] []) : MtEx P w K mg base fld k ⟨0, cc, nm⟩ g :=
  ⟨He.cls_ok h1, _, _, fd, q, j, fProp_ok h2, F, hj, hb⟩
theorem mt_meth {cc : Nat} {nm : PySem.Str} {ps : List PySem.Str} {g : Fn} {fd : FuncData} (h1 : fCls (insName cc) K = true) (h2 : fMeth (insName cc) nm K = true) (F : FnOk P w K mg base (L2.CX P w) j (aM (insName cc) nm K) fd ps (spOf K fld g)) (hj : j ≤ k) (hb : Binds K fd ps []) : MtEx P w K mg base fld k ⟨1, cc, nm⟩ g :=
  ⟨He.cls_ok h1, _, fd, ps, He.meth_ok h2, F.mono hj, hb⟩
theorem mt_mk {h : Heap} (X : K.In h) (Gn : h.Ns mainGlobals mg) {cc : Nat} {ps : List PySem.Str} {s s' : FSp} {fd : FuncData} (h1 : fCls (insName cc) K = true) (h2 : fMkr (insName cc) K = true) (h3 : fGlo (insName cc) K = true) (F : FnOk P w K mg base (L2.CX P w) j (aM (insName cc) "__init__" K) fd ps (spG K fld s)) (hj : j + 1 ≤ k) (hb : Binds K fd ps [])
    (imp : ∀ ds m kk e, s' ds m kk e → ∀ a, m a = none → s (.loc a :: ds) (m.put a (.ins cc [])) (fun d m' => d = .non ∧ kk (.loc a) m') e) : MtEx P w K mg base fld k ⟨2, cc, insName cc⟩ (.gen s') :=
  ⟨He.cls_ok h1, _, fd, ps, s, j, s', He.mkr_ok h2, He.glo_ok X Gn h3, F, hj, hb, rfl, imp⟩
end
theorem walk_D {l : PySem.W.OpenLaw} {n k : Nat} {q : Program} {loose : List PySem.Str} {XP : (PySem.Str → Option Value) → Heap → Prop} {YP : World → Heap → Prop} {d : DefRec} {x : PySem.Str} {s : FSp}
    (hn : l.most = some n) (hn2 : n ≤ sizeLine) (hdf : d.params.defaults = []) (hr : Room k callerA) (hL : n ≤ LINE)
    (F : ∀ (w : World) (mg : PySem.Str → Option Value) (fa : Addr) (h : Heap), YP w h → h.Ns mainGlobals mg → mg d.name = some (.ref fa) →
      ∃ (K : PySem.W.Frag) (fd : FuncData) (fld : Nat → Addr × PySem.Str), K.In h ∧ (∀ (s : Shared) (u : Value), BindsTo s fd ⟨[u], []⟩ [(x, u)]) ∧
        ∀ base : Heap, K.In base → base.Ns mainGlobals mg → FnOk l.prog w K mg base (L2.CX l.prog w) k fa fd [x] (spG K fld s))
    (hs : ∀ ns : List Int, ns.length ≤ n → s [.scr ns] Mu.nil (fun d _ => d = .bl true) (fun _ _ => False)) :
    PySem.W.WalkO q loose XP YP l.row.toRowW d [] (fun f vs => PySem.call f vs) := by
  refine Att.attach_call hn hdf fun w s₀ s₁ mg mb fa o pm cd doc a vs ns G Y ho hd hcd hmg hobj hints hlen hg => ?_
  obtain ⟨K, fd, fld, KX, hb, hF⟩ := F w mg fa _ Y G.T.g hmg
  refine law_call KX G.T.g G.T.b G.T.builtins G.T.nolimit hg hobj hints (Nat.le_trans hlen hn2) hr hF hb (fun H hO hS => ?_) fun H e s' h => ?_
  · refine ⟨[.scr ns], Mu.nil, H, H, (fun d _ => d = .bl true), (fun _ _ => False), ⟨fun _ _ h => h, fun _ _ h => h, fun p o e => by cases e⟩, .cons (.scr hS (Nat.le_trans hlen hL)) .nil, hs ns hlen, ?_, fun _ _ _ _ _ _ h => h.elim⟩
    rintro d m' v H' F' rfl _ _ r
    cases r
    rfl
  · obtain ⟨_, _, _, _, _, _, _, _, _, _, _, _, h⟩ := h
    exact h
theorem gl_str {K : PySem.W.Frag} {h : Heap} {mg : PySem.Str → Option Value} (X : K.In h) (G : h.Ns mainGlobals mg) {x z : PySem.Str} {d : S} (c : fStr x z K = true) (e : z.cps.toList = d) (hc : ∀ c ∈ d, c < 0x110000) :
    ∃ v u, mg x = some u ∧ RelV v u ∧ ∀ F, RelD K F v (.str d) := by
  obtain ⟨t, ht⟩ := He.str_ok X G c
  subst e
  exact ⟨.str z, _, ht, ⟨t, rfl⟩, fun F => .str z hc⟩
theorem gl_int {K : PySem.W.Frag} {h : Heap} {mg : PySem.Str → Option Value} (X : K.In h) (G : h.Ns mainGlobals mg) {x : PySem.Str} {i : Int} (c : fInt x i K = true) :
    ∃ v u, mg x = some u ∧ RelV v u ∧ ∀ F, RelD K F v (.int i) := by
  obtain ⟨t, ht⟩ := He.int_ok X G c
  exact ⟨.int i, _, ht, ⟨t, rfl⟩, fun F => .int i⟩
theorem blt_free {K : PySem.W.Frag} {h : Heap} {mg : PySem.Str → Option Value} (X : K.In h) (G : h.Ns mainGlobals mg) (c : ∀ x ∈ bltNames, fFree x K = true) : ∀ x ∈ bltNames, mg x = none := fun x hx => He.free_ok X G (c x hx)
end DL

set_option linter.all false
namespace DL
/-! DLL: lemmas for readings of the small language -/
section
variable {m : Mu}
theorem look_non : look m .non = .non := rfl
theorem look_bl {b : Bool} : look m (.bl b) = .bl b := rfl
theorem look_int {b : Int} : look m (.int b) = .int b := rfl
theorem look_str {b : S} : look m (.str b) = .str b := rfl
theorem look_tup {b : List DV} : look m (.tup b) = .tup b := rfl
theorem look_lst {b : List DV} : look m (.lst b) = .lst b := rfl
theorem look_dic {b : List (DK × DV)} : look m (.dic b) = .dic b := rfl
theorem look_dit {b : List (List DK × DV)} : look m (.dit b) = .dit b := rfl
theorem look_ins {c : Nat} {b : List (S × DV)} : look m (.ins c b) = .ins c b := rfl
theorem look_scr {b : List Int} : look m (.scr b) = .scr b := rfl
theorem look_loc {a : Nat} {xs : List DV} (h : m a = some (.lst xs)) : look m (.loc a) = .lst xs := by
  unfold look
  simp only [h]
end
theorem put_same {m : Mu} {a : Nat} {o : DO} : (m.put a o) a = some o := by unfold Mu.put; rw [if_pos rfl]
theorem put_ne {m : Mu} {a b : Nat} {o : DO} (h : b ≠ a) : (m.put a o) b = m b := by unfold Mu.put; rw [if_neg h]
theorem ne_of_some {m : Mu} {a b : Nat} {o : DO} (h : m a = some o) (h' : m b = none) : a ≠ b := by
  intro e
  subst e
  rw [h] at h'
  cases h'
theorem at0 {α : Type} {c : α} {r : List α} : atD (c :: r) 0 = some c := by
  unfold atD idx
  rw [if_pos (Int.le_refl 0), if_pos (by simp)]
  rfl
theorem at1 {α : Type} {c d : α} {r : List α} : atD (c :: d :: r) 1 = some d := by
  unfold atD idx
  rw [if_pos (by decide), if_pos (by simp only [List.length_cons]; omega)]
  rfl
theorem at2 {α : Type} {c d e : α} {r : List α} : atD (c :: d :: e :: r) 2 = some e := by
  unfold atD idx
  rw [if_pos (by decide), if_pos (by simp only [List.length_cons]; omega)]
  rfl
theorem atD_some {α : Type} {xs : List α} {i : Int} (h0 : 0 ≤ i) (h1 : i < xs.length) : atD xs i = some (xs[i.toNat]'(by omega)) := by
  unfold atD idx
  rw [if_pos h0, if_pos h1]
  simp only [Option.bind_some]
  exact List.getElem?_eq_getElem _
theorem at_in {α : Type} {xs : List α} {i : Int} (h0 : 0 ≤ i) (h1 : i < xs.length) : ∃ v, atD xs i = some v ∧ v ∈ xs := ⟨_, atD_some h0 h1, List.getElem_mem _⟩
theorem idx_some {n : Nat} {i : Int} (h0 : 0 ≤ i) (h1 : i < n) : idx n i = some i.toNat := by
  unfold idx
  rw [if_pos h0, if_pos h1]
/-! the operations, form by form -/
section Ops
namespace O
theorem binAI {i j : Int} {k : DV → Prop} : binD .add (.int i) (.int j) k = (k (.int (i + j))) := rfl
theorem binAS {s t : S} {k : DV → Prop} : binD .add (.str s) (.str t) k = (s.length + t.length ≤ LINE ∧ k (.str (s ++ t))) := rfl
theorem binAT {s t : List DV} {k : DV → Prop} : binD .add (.tup s) (.tup t) k = (s.length + t.length ≤ LINE ∧ k (.tup (s ++ t))) := rfl
theorem binAL {s t : List DV} {k : DV → Prop} : binD .add (.lst s) (.lst t) k = (s.length + t.length ≤ LINE ∧ k (.lst (s ++ t))) := rfl
theorem binS {i j : Int} {k : DV → Prop} : binD .sub (.int i) (.int j) k = (k (.int (i - j))) := rfl
theorem binM {i j : Int} {k : DV → Prop} : binD .mul (.int i) (.int j) k = (mulOk i j ∧ k (.int (i * j))) := rfl
theorem binML {s : List DV} {j : Int} {k : DV → Prop} : binD .mul (.lst s) (.int j) k = ((0 ≤ j ∧ j < 1000 ∧ s.length ≤ 1000) ∧ k (.lst (List.replicate j.toNat s).flatten)) := rfl
theorem binF {i j : Int} {k : DV → Prop} : binD .fdiv (.int i) (.int j) k = (divOk j ∧ k (.int (i.fdiv j))) := rfl
theorem binR {i j : Int} {k : DV → Prop} : binD .mod (.int i) (.int j) k = (j ≠ 0 ∧ k (.int (i.fmod j))) := rfl
theorem binP {i j : Int} {k : DV → Prop} : binD .pow (.int i) (.int j) k = ((0 ≤ j ∧ j ≤ 1000 ∧ i.natAbs < 2 ^ 64) ∧ k (.int (i ^ j.toNat))) := rfl
theorem cmpEq {x y : DV} {m : Mu} {k : DV → Prop} : cmpD .eq m x y k = ((plain x = true ∧ plain y = true ∧ depth x ≤ 60 ∧ depth y ≤ 60) ∧ k (.bl (eqv x y))) := rfl
theorem cmpNe {x y : DV} {m : Mu} {k : DV → Prop} : cmpD .ne m x y k = ((plain x = true ∧ plain y = true ∧ depth x ≤ 60 ∧ depth y ≤ 60) ∧ k (.bl (!eqv x y))) := rfl
theorem cmpIsN {x y : DV} {m : Mu} {k : DV → Prop} : cmpD .isN m x y k = (isNonD y = true ∧ k (.bl (isNonD x))) := rfl
theorem cmpNotN {x y : DV} {m : Mu} {k : DV → Prop} : cmpD .notN m x y k = (isNonD y = true ∧ k (.bl (!isNonD x))) := rfl
theorem cmpLt {i j : Int} {m : Mu} {k : DV → Prop} : cmpD .lt m (.int i) (.int j) k = (k (.bl (decide (i < j)))) := rfl
theorem cmpLtS {i j : S} {m : Mu} {k : DV → Prop} : cmpD .lt m (.str i) (.str j) k = (k (.bl (decide (i < j)))) := rfl
theorem cmpLe {i j : Int} {m : Mu} {k : DV → Prop} : cmpD .le m (.int i) (.int j) k = (k (.bl (decide (i ≤ j)))) := rfl
theorem cmpGt {i j : Int} {m : Mu} {k : DV → Prop} : cmpD .gt m (.int i) (.int j) k = (k (.bl (decide (j < i)))) := rfl
theorem cmpGe {i j : Int} {m : Mu} {k : DV → Prop} : cmpD .ge m (.int i) (.int j) k = (k (.bl (decide (j ≤ i)))) := rfl
theorem cmpInL {x : DV} {ys : List DV} {m : Mu} {k : DV → Prop} : cmpD .isin m x (.lst ys) k = ((plain x = true ∧ plains ys = true ∧ depth x ≤ 60 ∧ depths ys ≤ 59) ∧ k (.bl (ys.any fun z => eqv z x))) := rfl
theorem cmpInT {x : DV} {ys : List DV} {m : Mu} {k : DV → Prop} : cmpD .isin m x (.tup ys) k = ((plain x = true ∧ plains ys = true ∧ depth x ≤ 60 ∧ depths ys ≤ 59) ∧ k (.bl (ys.any fun z => eqv z x))) := rfl
theorem cmpInS {c : Nat} {z : S} {m : Mu} {k : DV → Prop} : cmpD .isin m (.str [c]) (.str z) k = (k (.bl (decide (c ∈ z)))) := rfl
theorem cmpNiL {x : DV} {ys : List DV} {m : Mu} {k : DV → Prop} : cmpD .notin m x (.lst ys) k = ((plain x = true ∧ plains ys = true ∧ depth x ≤ 60 ∧ depths ys ≤ 59) ∧ k (.bl (!ys.any fun z => eqv z x))) := rfl
theorem cmpNiT {x : DV} {ys : List DV} {m : Mu} {k : DV → Prop} : cmpD .notin m x (.tup ys) k = ((plain x = true ∧ plains ys = true ∧ depth x ≤ 60 ∧ depths ys ≤ 59) ∧ k (.bl (!ys.any fun z => eqv z x))) := rfl
theorem cmpNiS {c : Nat} {z : S} {m : Mu} {k : DV → Prop} : cmpD .notin m (.str [c]) (.str z) k = (k (.bl (!decide (c ∈ z)))) := rfl
theorem subL {xs : List DV} {i : Int} {k : DV → Prop} : subD (.lst xs) (.int i) k = (∃ v, atD xs i = some v ∧ k v) := rfl
theorem subT {xs : List DV} {i : Int} {k : DV → Prop} : subD (.tup xs) (.int i) k = (∃ v, atD xs i = some v ∧ k v) := rfl
theorem subS {xs : S} {i : Int} {k : DV → Prop} : subD (.str xs) (.int i) k = (xs.length ≤ LINE ∧ ∃ v, atD xs i = some v ∧ k (.str [v])) := rfl
theorem cutL {xs : List DV} {i j : Option Int} {k : DV → Prop} : cutD (.lst xs) i j k = (k (.lst (cut xs i j))) := rfl
theorem cutT {xs : List DV} {i j : Option Int} {k : DV → Prop} : cutD (.tup xs) i j k = (k (.tup (cut xs i j))) := rfl
theorem cutS {xs : S} {i j : Option Int} {k : DV → Prop} : cutD (.str xs) i j k = (xs.length ≤ LINE ∧ k (.str (cut xs i j))) := rfl
theorem revL {xs : List DV} {k : DV → Prop} : revD (.lst xs) k = (k (.lst xs.reverse)) := rfl
theorem revT {xs : List DV} {k : DV → Prop} : revD (.tup xs) k = (k (.tup xs.reverse)) := rfl
theorem revS {xs : S} {k : DV → Prop} : revD (.str xs) k = (xs.length ≤ LINE ∧ k (.str xs.reverse)) := rfl
theorem lenL {xs : List DV} {k : DV → Prop} : bltD .len [.lst xs] k = (k (.int xs.length)) := rfl
theorem lenT {xs : List DV} {k : DV → Prop} : bltD .len [.tup xs] k = (k (.int xs.length)) := rfl
theorem lenS {xs : S} {k : DV → Prop} : bltD .len [.str xs] k = (xs.length ≤ LINE ∧ k (.int xs.length)) := rfl
theorem absI {i : Int} {k : DV → Prop} : bltD .abs [.int i] k = (k (.int (if i < 0 then -i else i))) := rfl
theorem intI {i : Int} {k : DV → Prop} : bltD .int [.int i] k = (k (.int i)) := rfl
theorem intB {b : Bool} {k : DV → Prop} : bltD .int [.bl b] k = (k (.int (if b then 1 else 0))) := rfl
theorem listL {xs : List DV} {k : DV → Prop} : bltD .list [.lst xs] k = (k (.lst xs)) := rfl
theorem listT {xs : List DV} {k : DV → Prop} : bltD .list [.tup xs] k = (k (.lst xs)) := rfl
theorem listS {ns : List Int} {k : DV → Prop} : bltD .list [.scr ns] k = (k (.lst (ns.map .int))) := rfl
theorem tupL {xs : List DV} {k : DV → Prop} : bltD .tuple [.lst xs] k = (k (.tup xs)) := rfl
theorem tupT {xs : List DV} {k : DV → Prop} : bltD .tuple [.tup xs] k = (k (.tup xs)) := rfl
theorem max2 {i j : Int} {k : DV → Prop} : bltD .max2 [.int i, .int j] k = (k (.int (if j > i then j else i))) := rfl
theorem min2 {i j : Int} {k : DV → Prop} : bltD .min2 [.int i, .int j] k = (k (.int (if j < i then j else i))) := rfl
theorem anyL {xs : List DV} {k : DV → Prop} : bltD .any [.lst xs] k = (∃ bs, bls? xs = some bs ∧ k (.bl (bs.any id))) := rfl
theorem allL {xs : List DV} {k : DV → Prop} : bltD .all [.lst xs] k = (∃ bs, bls? xs = some bs ∧ k (.bl (bs.all id))) := rfl
theorem sumL {xs : List DV} {k : DV → Prop} : bltD .sum [.lst xs] k = (∃ is, ints? xs = some is ∧ k (.int is.sum)) := rfl
theorem metA {a : Nat} {d : DV} {m : Mu} {k : Post} : metD .append (.loc a) [d] m k = (∃ xs, m a = some (.lst xs) ∧ xs.length < LINE ∧ k .non (m.put a (.lst (xs ++ [d])))) := rfl
theorem metP {a : Nat} {i : Int} {m : Mu} {k : Post} : metD .pop (.loc a) [.int i] m k = (∃ xs j v, m a = some (.lst xs) ∧ idx xs.length i = some j ∧ xs[j]? = some v ∧ k v (m.put a (.lst (xs.eraseIdx j)))) := rfl
theorem metJ {s : S} {d : DV} {m : Mu} {k : Post} : metD .join (.str s) [d] m k = (∃ xs, (look m d = .lst xs ∨ look m d = .tup xs) ∧ ∃ ss, strs? xs = some ss ∧ (ss.map List.length).sum + ss.length * s.length ≤ LINE ∧ k (.str (sjoin s ss)) m) := rfl
theorem eqT {m : Mu} {x y : DV} {k : DV → Prop} : cmpD .eqT m x y k = (EqT m 20 x y ∧ k (.bl true)) := rfl
theorem neT {m : Mu} {x y : DV} {k : DV → Prop} : cmpD .neT m x y k = (EqT m 20 x y ∧ k (.bl false)) := rfl
theorem metI {o : DV} {ds : List DV} {m : Mu} {k : Post} : metD .index o ds m k = indexD o ds m k := rfl
theorem metR {a : Nat} {i : Int} {m : Mu} {k : Post} : metD .remove (.loc a) [.int i] m k = (∃ is : List Int, m a = some (.lst (is.map .int)) ∧ i ∈ is ∧ k .non (m.put a (.lst ((is.erase i).map .int)))) := rfl
theorem newL {xs : List DV} {m : Mu} {k : Post} : newD (.lst xs) m k = (∀ a, m a = none → k (.loc a) (m.put a (.lst xs))) := rfl
theorem newC {xs : List (DK × DV)} {m : Mu} {k : Post} : newD (.dic xs) m k = (∀ a, m a = none → k (.loc a) (m.put a (.dic xs))) := rfl
theorem newT {xs : List (List DK × DV)} {m : Mu} {k : Post} : newD (.dit xs) m k = (∀ a, m a = none → k (.loc a) (m.put a (.dit xs))) := rfl
theorem augAI {i j : Int} {m : Mu} {k : DV → Mu → Prop} : augD .add (.int i) (.int j) m k = (k (.int (i + j)) m) := rfl
theorem augSI {i j : Int} {m : Mu} {k : DV → Mu → Prop} : augD .sub (.int i) (.int j) m k = (k (.int (i - j)) m) := rfl
theorem augAL {a : Nat} {y : DV} {m : Mu} {k : DV → Mu → Prop} : augD .add (.loc a) y m k = (∃ xs zs, m a = some (.lst xs) ∧ look m y = .lst zs ∧ xs.length + zs.length ≤ LINE ∧ k (.loc a) (m.put a (.lst (xs ++ zs)))) := rfl
theorem setLI {a : Nat} {i : Int} {v : DV} {m : Mu} {k : Mu → Prop} : setD (.loc a) (.int i) v m k = (∃ xs j, m a = some (.lst xs) ∧ idx xs.length i = some j ∧ k (m.put a (.lst (xs.set j v)))) := rfl
theorem getLI {x : DV} {i : Int} {m : Mu} {k : DV → Prop} : getD x (.int i) m k = (0 ≤ i ∧ ∃ xs u, look m x = .lst xs ∧ xs[i.toNat]? = some u ∧ k u) := rfl
theorem bindN {i : Nat} {d : DV} {r : Env} {m : Mu} {k : Env → Prop} : bindP (.name i) d r m k = (i < r.length ∧ k (r.set i (some d))) := rfl
theorem bindT {a b : Pat} {x y : DV} {r : Env} {m : Mu} {k : Env → Prop} : bindP (.pair a b) (.tup [x, y]) r m k = (bindP a x r m fun r1 => bindP b y r1 m k) := rfl
theorem var0 {G : Nat → Option Fn} {d : DV} {r : Env} {m : Mu} {k : Post} {e : XPost} : rdE G (.var 0) (some d :: r) m k e = k d m := by
  rw [rdE]
  exact propext ⟨fun ⟨_, h, h2⟩ => by cases h; exact h2, fun h => ⟨d, rfl, h⟩⟩
theorem var1 {G : Nat → Option Fn} {x0 : Option DV} {d : DV} {r : Env} {m : Mu} {k : Post} {e : XPost} : rdE G (.var 1) (x0 :: some d :: r) m k e = k d m := by
  rw [rdE]
  exact propext ⟨fun ⟨_, h, h2⟩ => by cases h; exact h2, fun h => ⟨d, rfl, h⟩⟩
theorem var2 {G : Nat → Option Fn} {x0 : Option DV} {x1 : Option DV} {d : DV} {r : Env} {m : Mu} {k : Post} {e : XPost} : rdE G (.var 2) (x0 :: x1 :: some d :: r) m k e = k d m := by
  rw [rdE]
  exact propext ⟨fun ⟨_, h, h2⟩ => by cases h; exact h2, fun h => ⟨d, rfl, h⟩⟩
theorem var3 {G : Nat → Option Fn} {x0 : Option DV} {x1 : Option DV} {x2 : Option DV} {d : DV} {r : Env} {m : Mu} {k : Post} {e : XPost} : rdE G (.var 3) (x0 :: x1 :: x2 :: some d :: r) m k e = k d m := by
  rw [rdE]
  exact propext ⟨fun ⟨_, h, h2⟩ => by cases h; exact h2, fun h => ⟨d, rfl, h⟩⟩
theorem var4 {G : Nat → Option Fn} {x0 : Option DV} {x1 : Option DV} {x2 : Option DV} {x3 : Option DV} {d : DV} {r : Env} {m : Mu} {k : Post} {e : XPost} : rdE G (.var 4) (x0 :: x1 :: x2 :: x3 :: some d :: r) m k e = k d m := by
  rw [rdE]
  exact propext ⟨fun ⟨_, h, h2⟩ => by cases h; exact h2, fun h => ⟨d, rfl, h⟩⟩
theorem var5 {G : Nat → Option Fn} {x0 : Option DV} {x1 : Option DV} {x2 : Option DV} {x3 : Option DV} {x4 : Option DV} {d : DV} {r : Env} {m : Mu} {k : Post} {e : XPost} : rdE G (.var 5) (x0 :: x1 :: x2 :: x3 :: x4 :: some d :: r) m k e = k d m := by
  rw [rdE]
  exact propext ⟨fun ⟨_, h, h2⟩ => by cases h; exact h2, fun h => ⟨d, rfl, h⟩⟩
theorem var6 {G : Nat → Option Fn} {x0 : Option DV} {x1 : Option DV} {x2 : Option DV} {x3 : Option DV} {x4 : Option DV} {x5 : Option DV} {d : DV} {r : Env} {m : Mu} {k : Post} {e : XPost} : rdE G (.var 6) (x0 :: x1 :: x2 :: x3 :: x4 :: x5 :: some d :: r) m k e = k d m := by
  rw [rdE]
  exact propext ⟨fun ⟨_, h, h2⟩ => by cases h; exact h2, fun h => ⟨d, rfl, h⟩⟩
theorem var7 {G : Nat → Option Fn} {x0 : Option DV} {x1 : Option DV} {x2 : Option DV} {x3 : Option DV} {x4 : Option DV} {x5 : Option DV} {x6 : Option DV} {d : DV} {r : Env} {m : Mu} {k : Post} {e : XPost} : rdE G (.var 7) (x0 :: x1 :: x2 :: x3 :: x4 :: x5 :: x6 :: some d :: r) m k e = k d m := by
  rw [rdE]
  exact propext ⟨fun ⟨_, h, h2⟩ => by cases h; exact h2, fun h => ⟨d, rfl, h⟩⟩
theorem var8 {G : Nat → Option Fn} {x0 : Option DV} {x1 : Option DV} {x2 : Option DV} {x3 : Option DV} {x4 : Option DV} {x5 : Option DV} {x6 : Option DV} {x7 : Option DV} {d : DV} {r : Env} {m : Mu} {k : Post} {e : XPost} : rdE G (.var 8) (x0 :: x1 :: x2 :: x3 :: x4 :: x5 :: x6 :: x7 :: some d :: r) m k e = k d m := by
  rw [rdE]
  exact propext ⟨fun ⟨_, h, h2⟩ => by cases h; exact h2, fun h => ⟨d, rfl, h⟩⟩
theorem var9 {G : Nat → Option Fn} {x0 : Option DV} {x1 : Option DV} {x2 : Option DV} {x3 : Option DV} {x4 : Option DV} {x5 : Option DV} {x6 : Option DV} {x7 : Option DV} {x8 : Option DV} {d : DV} {r : Env} {m : Mu} {k : Post} {e : XPost} : rdE G (.var 9) (x0 :: x1 :: x2 :: x3 :: x4 :: x5 :: x6 :: x7 :: x8 :: some d :: r) m k e = k d m := by
  rw [rdE]
  exact propext ⟨fun ⟨_, h, h2⟩ => by cases h; exact h2, fun h => ⟨d, rfl, h⟩⟩
theorem var10 {G : Nat → Option Fn} {x0 : Option DV} {x1 : Option DV} {x2 : Option DV} {x3 : Option DV} {x4 : Option DV} {x5 : Option DV} {x6 : Option DV} {x7 : Option DV} {x8 : Option DV} {x9 : Option DV} {d : DV} {r : Env} {m : Mu} {k : Post} {e : XPost} : rdE G (.var 10) (x0 :: x1 :: x2 :: x3 :: x4 :: x5 :: x6 :: x7 :: x8 :: x9 :: some d :: r) m k e = k d m := by
  rw [rdE]
  exact propext ⟨fun ⟨_, h, h2⟩ => by cases h; exact h2, fun h => ⟨d, rfl, h⟩⟩
theorem var11 {G : Nat → Option Fn} {x0 : Option DV} {x1 : Option DV} {x2 : Option DV} {x3 : Option DV} {x4 : Option DV} {x5 : Option DV} {x6 : Option DV} {x7 : Option DV} {x8 : Option DV} {x9 : Option DV} {x10 : Option DV} {d : DV} {r : Env} {m : Mu} {k : Post} {e : XPost} : rdE G (.var 11) (x0 :: x1 :: x2 :: x3 :: x4 :: x5 :: x6 :: x7 :: x8 :: x9 :: x10 :: some d :: r) m k e = k d m := by
  rw [rdE]
  exact propext ⟨fun ⟨_, h, h2⟩ => by cases h; exact h2, fun h => ⟨d, rfl, h⟩⟩
theorem var12 {G : Nat → Option Fn} {x0 : Option DV} {x1 : Option DV} {x2 : Option DV} {x3 : Option DV} {x4 : Option DV} {x5 : Option DV} {x6 : Option DV} {x7 : Option DV} {x8 : Option DV} {x9 : Option DV} {x10 : Option DV} {x11 : Option DV} {d : DV} {r : Env} {m : Mu} {k : Post} {e : XPost} : rdE G (.var 12) (x0 :: x1 :: x2 :: x3 :: x4 :: x5 :: x6 :: x7 :: x8 :: x9 :: x10 :: x11 :: some d :: r) m k e = k d m := by
  rw [rdE]
  exact propext ⟨fun ⟨_, h, h2⟩ => by cases h; exact h2, fun h => ⟨d, rfl, h⟩⟩
theorem var13 {G : Nat → Option Fn} {x0 : Option DV} {x1 : Option DV} {x2 : Option DV} {x3 : Option DV} {x4 : Option DV} {x5 : Option DV} {x6 : Option DV} {x7 : Option DV} {x8 : Option DV} {x9 : Option DV} {x10 : Option DV} {x11 : Option DV} {x12 : Option DV} {d : DV} {r : Env} {m : Mu} {k : Post} {e : XPost} : rdE G (.var 13) (x0 :: x1 :: x2 :: x3 :: x4 :: x5 :: x6 :: x7 :: x8 :: x9 :: x10 :: x11 :: x12 :: some d :: r) m k e = k d m := by
  rw [rdE]
  exact propext ⟨fun ⟨_, h, h2⟩ => by cases h; exact h2, fun h => ⟨d, rfl, h⟩⟩
theorem var14 {G : Nat → Option Fn} {x0 : Option DV} {x1 : Option DV} {x2 : Option DV} {x3 : Option DV} {x4 : Option DV} {x5 : Option DV} {x6 : Option DV} {x7 : Option DV} {x8 : Option DV} {x9 : Option DV} {x10 : Option DV} {x11 : Option DV} {x12 : Option DV} {x13 : Option DV} {d : DV} {r : Env} {m : Mu} {k : Post} {e : XPost} : rdE G (.var 14) (x0 :: x1 :: x2 :: x3 :: x4 :: x5 :: x6 :: x7 :: x8 :: x9 :: x10 :: x11 :: x12 :: x13 :: some d :: r) m k e = k d m := by
  rw [rdE]
  exact propext ⟨fun ⟨_, h, h2⟩ => by cases h; exact h2, fun h => ⟨d, rfl, h⟩⟩
theorem var15 {G : Nat → Option Fn} {x0 : Option DV} {x1 : Option DV} {x2 : Option DV} {x3 : Option DV} {x4 : Option DV} {x5 : Option DV} {x6 : Option DV} {x7 : Option DV} {x8 : Option DV} {x9 : Option DV} {x10 : Option DV} {x11 : Option DV} {x12 : Option DV} {x13 : Option DV} {x14 : Option DV} {d : DV} {r : Env} {m : Mu} {k : Post} {e : XPost} : rdE G (.var 15) (x0 :: x1 :: x2 :: x3 :: x4 :: x5 :: x6 :: x7 :: x8 :: x9 :: x10 :: x11 :: x12 :: x13 :: x14 :: some d :: r) m k e = k d m := by
  rw [rdE]
  exact propext ⟨fun ⟨_, h, h2⟩ => by cases h; exact h2, fun h => ⟨d, rfl, h⟩⟩
theorem var16 {G : Nat → Option Fn} {x0 : Option DV} {x1 : Option DV} {x2 : Option DV} {x3 : Option DV} {x4 : Option DV} {x5 : Option DV} {x6 : Option DV} {x7 : Option DV} {x8 : Option DV} {x9 : Option DV} {x10 : Option DV} {x11 : Option DV} {x12 : Option DV} {x13 : Option DV} {x14 : Option DV} {x15 : Option DV} {d : DV} {r : Env} {m : Mu} {k : Post} {e : XPost} : rdE G (.var 16) (x0 :: x1 :: x2 :: x3 :: x4 :: x5 :: x6 :: x7 :: x8 :: x9 :: x10 :: x11 :: x12 :: x13 :: x14 :: x15 :: some d :: r) m k e = k d m := by
  rw [rdE]
  exact propext ⟨fun ⟨_, h, h2⟩ => by cases h; exact h2, fun h => ⟨d, rfl, h⟩⟩
theorem var17 {G : Nat → Option Fn} {x0 : Option DV} {x1 : Option DV} {x2 : Option DV} {x3 : Option DV} {x4 : Option DV} {x5 : Option DV} {x6 : Option DV} {x7 : Option DV} {x8 : Option DV} {x9 : Option DV} {x10 : Option DV} {x11 : Option DV} {x12 : Option DV} {x13 : Option DV} {x14 : Option DV} {x15 : Option DV} {x16 : Option DV} {d : DV} {r : Env} {m : Mu} {k : Post} {e : XPost} : rdE G (.var 17) (x0 :: x1 :: x2 :: x3 :: x4 :: x5 :: x6 :: x7 :: x8 :: x9 :: x10 :: x11 :: x12 :: x13 :: x14 :: x15 :: x16 :: some d :: r) m k e = k d m := by
  rw [rdE]
  exact propext ⟨fun ⟨_, h, h2⟩ => by cases h; exact h2, fun h => ⟨d, rfl, h⟩⟩
theorem var18 {G : Nat → Option Fn} {x0 : Option DV} {x1 : Option DV} {x2 : Option DV} {x3 : Option DV} {x4 : Option DV} {x5 : Option DV} {x6 : Option DV} {x7 : Option DV} {x8 : Option DV} {x9 : Option DV} {x10 : Option DV} {x11 : Option DV} {x12 : Option DV} {x13 : Option DV} {x14 : Option DV} {x15 : Option DV} {x16 : Option DV} {x17 : Option DV} {d : DV} {r : Env} {m : Mu} {k : Post} {e : XPost} : rdE G (.var 18) (x0 :: x1 :: x2 :: x3 :: x4 :: x5 :: x6 :: x7 :: x8 :: x9 :: x10 :: x11 :: x12 :: x13 :: x14 :: x15 :: x16 :: x17 :: some d :: r) m k e = k d m := by
  rw [rdE]
  exact propext ⟨fun ⟨_, h, h2⟩ => by cases h; exact h2, fun h => ⟨d, rfl, h⟩⟩
theorem var19 {G : Nat → Option Fn} {x0 : Option DV} {x1 : Option DV} {x2 : Option DV} {x3 : Option DV} {x4 : Option DV} {x5 : Option DV} {x6 : Option DV} {x7 : Option DV} {x8 : Option DV} {x9 : Option DV} {x10 : Option DV} {x11 : Option DV} {x12 : Option DV} {x13 : Option DV} {x14 : Option DV} {x15 : Option DV} {x16 : Option DV} {x17 : Option DV} {x18 : Option DV} {d : DV} {r : Env} {m : Mu} {k : Post} {e : XPost} : rdE G (.var 19) (x0 :: x1 :: x2 :: x3 :: x4 :: x5 :: x6 :: x7 :: x8 :: x9 :: x10 :: x11 :: x12 :: x13 :: x14 :: x15 :: x16 :: x17 :: x18 :: some d :: r) m k e = k d m := by
  rw [rdE]
  exact propext ⟨fun ⟨_, h, h2⟩ => by cases h; exact h2, fun h => ⟨d, rfl, h⟩⟩
theorem var20 {G : Nat → Option Fn} {x0 : Option DV} {x1 : Option DV} {x2 : Option DV} {x3 : Option DV} {x4 : Option DV} {x5 : Option DV} {x6 : Option DV} {x7 : Option DV} {x8 : Option DV} {x9 : Option DV} {x10 : Option DV} {x11 : Option DV} {x12 : Option DV} {x13 : Option DV} {x14 : Option DV} {x15 : Option DV} {x16 : Option DV} {x17 : Option DV} {x18 : Option DV} {x19 : Option DV} {d : DV} {r : Env} {m : Mu} {k : Post} {e : XPost} : rdE G (.var 20) (x0 :: x1 :: x2 :: x3 :: x4 :: x5 :: x6 :: x7 :: x8 :: x9 :: x10 :: x11 :: x12 :: x13 :: x14 :: x15 :: x16 :: x17 :: x18 :: x19 :: some d :: r) m k e = k d m := by
  rw [rdE]
  exact propext ⟨fun ⟨_, h, h2⟩ => by cases h; exact h2, fun h => ⟨d, rfl, h⟩⟩
theorem var21 {G : Nat → Option Fn} {x0 : Option DV} {x1 : Option DV} {x2 : Option DV} {x3 : Option DV} {x4 : Option DV} {x5 : Option DV} {x6 : Option DV} {x7 : Option DV} {x8 : Option DV} {x9 : Option DV} {x10 : Option DV} {x11 : Option DV} {x12 : Option DV} {x13 : Option DV} {x14 : Option DV} {x15 : Option DV} {x16 : Option DV} {x17 : Option DV} {x18 : Option DV} {x19 : Option DV} {x20 : Option DV} {d : DV} {r : Env} {m : Mu} {k : Post} {e : XPost} : rdE G (.var 21) (x0 :: x1 :: x2 :: x3 :: x4 :: x5 :: x6 :: x7 :: x8 :: x9 :: x10 :: x11 :: x12 :: x13 :: x14 :: x15 :: x16 :: x17 :: x18 :: x19 :: x20 :: some d :: r) m k e = k d m := by
  rw [rdE]
  exact propext ⟨fun ⟨_, h, h2⟩ => by cases h; exact h2, fun h => ⟨d, rfl, h⟩⟩
theorem var22 {G : Nat → Option Fn} {x0 : Option DV} {x1 : Option DV} {x2 : Option DV} {x3 : Option DV} {x4 : Option DV} {x5 : Option DV} {x6 : Option DV} {x7 : Option DV} {x8 : Option DV} {x9 : Option DV} {x10 : Option DV} {x11 : Option DV} {x12 : Option DV} {x13 : Option DV} {x14 : Option DV} {x15 : Option DV} {x16 : Option DV} {x17 : Option DV} {x18 : Option DV} {x19 : Option DV} {x20 : Option DV} {x21 : Option DV} {d : DV} {r : Env} {m : Mu} {k : Post} {e : XPost} : rdE G (.var 22) (x0 :: x1 :: x2 :: x3 :: x4 :: x5 :: x6 :: x7 :: x8 :: x9 :: x10 :: x11 :: x12 :: x13 :: x14 :: x15 :: x16 :: x17 :: x18 :: x19 :: x20 :: x21 :: some d :: r) m k e = k d m := by
  rw [rdE]
  exact propext ⟨fun ⟨_, h, h2⟩ => by cases h; exact h2, fun h => ⟨d, rfl, h⟩⟩
theorem var23 {G : Nat → Option Fn} {x0 : Option DV} {x1 : Option DV} {x2 : Option DV} {x3 : Option DV} {x4 : Option DV} {x5 : Option DV} {x6 : Option DV} {x7 : Option DV} {x8 : Option DV} {x9 : Option DV} {x10 : Option DV} {x11 : Option DV} {x12 : Option DV} {x13 : Option DV} {x14 : Option DV} {x15 : Option DV} {x16 : Option DV} {x17 : Option DV} {x18 : Option DV} {x19 : Option DV} {x20 : Option DV} {x21 : Option DV} {x22 : Option DV} {d : DV} {r : Env} {m : Mu} {k : Post} {e : XPost} : rdE G (.var 23) (x0 :: x1 :: x2 :: x3 :: x4 :: x5 :: x6 :: x7 :: x8 :: x9 :: x10 :: x11 :: x12 :: x13 :: x14 :: x15 :: x16 :: x17 :: x18 :: x19 :: x20 :: x21 :: x22 :: some d :: r) m k e = k d m := by
  rw [rdE]
  exact propext ⟨fun ⟨_, h, h2⟩ => by cases h; exact h2, fun h => ⟨d, rfl, h⟩⟩
theorem isi_non_int  : isiD .int .non = some false := rfl
theorem isi_non_bool  : isiD .bool .non = some false := rfl
theorem isi_non_str  : isiD .str .non = some false := rfl
theorem isi_non_tuple  : isiD .tuple .non = some false := rfl
theorem isi_non_list  : isiD .list .non = some false := rfl
theorem isi_non_dict  : isiD .dict .non = some false := rfl
theorem isi_bl_int {b : Bool} : isiD .int (.bl b) = some true := rfl
theorem isi_bl_bool {b : Bool} : isiD .bool (.bl b) = some true := rfl
theorem isi_bl_str {b : Bool} : isiD .str (.bl b) = some false := rfl
theorem isi_bl_tuple {b : Bool} : isiD .tuple (.bl b) = some false := rfl
theorem isi_bl_list {b : Bool} : isiD .list (.bl b) = some false := rfl
theorem isi_bl_dict {b : Bool} : isiD .dict (.bl b) = some false := rfl
theorem isi_int_int {i : Int} : isiD .int (.int i) = some true := rfl
theorem isi_int_bool {i : Int} : isiD .bool (.int i) = some false := rfl
theorem isi_int_str {i : Int} : isiD .str (.int i) = some false := rfl
theorem isi_int_tuple {i : Int} : isiD .tuple (.int i) = some false := rfl
theorem isi_int_list {i : Int} : isiD .list (.int i) = some false := rfl
theorem isi_int_dict {i : Int} : isiD .dict (.int i) = some false := rfl
theorem isi_str_int {s : S} : isiD .int (.str s) = some false := rfl
theorem isi_str_bool {s : S} : isiD .bool (.str s) = some false := rfl
theorem isi_str_str {s : S} : isiD .str (.str s) = some true := rfl
theorem isi_str_tuple {s : S} : isiD .tuple (.str s) = some false := rfl
theorem isi_str_list {s : S} : isiD .list (.str s) = some false := rfl
theorem isi_str_dict {s : S} : isiD .dict (.str s) = some false := rfl
theorem isi_tup_int {xs : List DV} : isiD .int (.tup xs) = some false := rfl
theorem isi_tup_bool {xs : List DV} : isiD .bool (.tup xs) = some false := rfl
theorem isi_tup_str {xs : List DV} : isiD .str (.tup xs) = some false := rfl
theorem isi_tup_tuple {xs : List DV} : isiD .tuple (.tup xs) = some true := rfl
theorem isi_tup_list {xs : List DV} : isiD .list (.tup xs) = some false := rfl
theorem isi_tup_dict {xs : List DV} : isiD .dict (.tup xs) = some false := rfl
theorem isi_lst_int {xs : List DV} : isiD .int (.lst xs) = some false := rfl
theorem isi_lst_bool {xs : List DV} : isiD .bool (.lst xs) = some false := rfl
theorem isi_lst_str {xs : List DV} : isiD .str (.lst xs) = some false := rfl
theorem isi_lst_tuple {xs : List DV} : isiD .tuple (.lst xs) = some false := rfl
theorem isi_lst_list {xs : List DV} : isiD .list (.lst xs) = some true := rfl
theorem isi_lst_dict {xs : List DV} : isiD .dict (.lst xs) = some false := rfl
theorem isi_dic_int {ks : List (DK × DV)} : isiD .int (.dic ks) = some false := rfl
theorem isi_dic_bool {ks : List (DK × DV)} : isiD .bool (.dic ks) = some false := rfl
theorem isi_dic_str {ks : List (DK × DV)} : isiD .str (.dic ks) = some false := rfl
theorem isi_dic_tuple {ks : List (DK × DV)} : isiD .tuple (.dic ks) = some false := rfl
theorem isi_dic_list {ks : List (DK × DV)} : isiD .list (.dic ks) = some false := rfl
theorem isi_dic_dict {ks : List (DK × DV)} : isiD .dict (.dic ks) = some true := rfl
theorem tru_non  : truD .non = some false := rfl
theorem tru_bl {b : Bool} : truD (.bl b) = some b := rfl
theorem tru_int {i : Int} : truD (.int i) = some (i != 0) := rfl
theorem tru_lst {xs : List DV} : truD (.lst xs) = some (!xs.isEmpty) := rfl
theorem tru_tup {xs : List DV} : truD (.tup xs) = some (!xs.isEmpty) := rfl
theorem isN_non  : isNonD .non = true := rfl
theorem isN_bl {b : Bool} : isNonD (.bl b) = false := rfl
theorem isN_int {i : Int} : isNonD (.int i) = false := rfl
theorem isN_str {s : S} : isNonD (.str s) = false := rfl
theorem isN_tup {xs : List DV} : isNonD (.tup xs) = false := rfl
theorem isN_lst {xs : List DV} : isNonD (.lst xs) = false := rfl
theorem isN_dic {ks : List (DK × DV)} : isNonD (.dic ks) = false := rfl
theorem isN_loc {a : Nat} : isNonD (.loc a) = false := rfl
theorem its_lst {xs : List DV} : itemsD (.lst xs) = some xs := rfl
theorem its_tup {xs : List DV} : itemsD (.tup xs) = some xs := rfl
theorem its_str {s : S} : itemsD (.str s) = some (s.map fun c => .str [c]) := rfl
theorem its_scr {ns : List Int} : itemsD (.scr ns) = some (ns.map .int) := rfl
theorem mty_append {xs : List DV} : mtyp .append (.lst xs) = true := rfl
theorem mty_pop {xs : List DV} : mtyp .pop (.lst xs) = true := rfl
theorem mty_join {s : S} : mtyp .join (.str s) = true := rfl
theorem mty_index {xs : List DV} : mtyp .index (.lst xs) = true := rfl
theorem mty_remove {xs : List DV} : mtyp .remove (.lst xs) = true := rfl
theorem isIns_ins {c : Nat} {fs : List (S × DV)} : isIns c (.ins c fs) = true := by simp [isIns]
theorem ns_tup {xs : List DV} {P : S → Prop} : (∀ s, DV.tup xs = .str s → P s) = True := eq_true fun _ h => nomatch h
theorem ns_lst {xs : List DV} {P : S → Prop} : (∀ s, DV.lst xs = .str s → P s) = True := eq_true fun _ h => nomatch h
theorem ns_scr {xs : List Int} {P : S → Prop} : (∀ s, DV.scr xs = .str s → P s) = True := eq_true fun _ h => nomatch h
theorem ns_str {x : S} {P : S → Prop} : (∀ s, DV.str x = .str s → P s) = P x := propext ⟨fun h => h x rfl, fun h s e => by cases e; exact h⟩
theorem il_non  : isLoc .non = false := rfl
theorem il_bl {b : Bool} : isLoc (.bl b) = false := rfl
theorem il_int {i : Int} : isLoc (.int i) = false := rfl
theorem il_str {s : S} : isLoc (.str s) = false := rfl
theorem il_tup {xs : List DV} : isLoc (.tup xs) = false := rfl
theorem il_lst {xs : List DV} : isLoc (.lst xs) = false := rfl
theorem il_dic {ks : List (DK × DV)} : isLoc (.dic ks) = false := rfl
theorem il_dit {ks : List (List DK × DV)} : isLoc (.dit ks) = false := rfl
theorem il_ins {c : Nat} {fs : List (S × DV)} : isLoc (.ins c fs) = false := rfl
theorem il_scr {ns : List Int} : isLoc (.scr ns) = false := rfl
theorem il_loc {a : Nat} : isLoc (.loc a) = true := rfl
theorem nm_non  : noMut .non = true := rfl
theorem nm_bl {b : Bool} : noMut (.bl b) = true := rfl
theorem nm_int {i : Int} : noMut (.int i) = true := rfl
theorem nm_str {s : S} : noMut (.str s) = true := rfl
theorem nm_tup {xs : List DV} : noMut (.tup xs) = noMuts xs := by conv => lhs; unfold noMut
theorem nms_nil : noMuts [] = true := rfl
theorem nms_cons {x : DV} {r : List DV} : noMuts (x :: r) = (noMut x && noMuts r) := by conv => lhs; unfold noMuts
theorem ssNil {G : Nat → Option Fn} {D : Ends} {r : Env} {m : Mu} : rdSs G .nil D r m = D.nx r m := by rw [rdSs]
theorem ssCons {G : Nat → Option Fn} {s : St} {t : Sts} {D : Ends} {r : Env} {m : Mu} : rdSs G (.cons s t) D r m = rdS G s { D with nx := fun r1 m1 => rdSs G t D r1 m1 } r m := by rw [rdSs]
theorem ln0 : (0 ≤ LINE) = True := eq_true (by decide)
theorem ln1 : (1 ≤ LINE) = True := eq_true (by decide)
theorem ln2 : (2 ≤ LINE) = True := eq_true (by decide)
theorem ln3 : (3 ≤ LINE) = True := eq_true (by decide)
theorem ln4 : (4 ≤ LINE) = True := eq_true (by decide)
theorem ln5 : (5 ≤ LINE) = True := eq_true (by decide)
theorem ln6 : (6 ≤ LINE) = True := eq_true (by decide)
theorem ln7 : (7 ≤ LINE) = True := eq_true (by decide)
theorem ln8 : (8 ≤ LINE) = True := eq_true (by decide)
theorem ln9 : (9 ≤ LINE) = True := eq_true (by decide)
theorem ln10 : (10 ≤ LINE) = True := eq_true (by decide)
theorem ln11 : (11 ≤ LINE) = True := eq_true (by decide)
theorem ln12 : (12 ≤ LINE) = True := eq_true (by decide)
theorem ln13 : (13 ≤ LINE) = True := eq_true (by decide)
theorem ln14 : (14 ≤ LINE) = True := eq_true (by decide)
theorem ln15 : (15 ≤ LINE) = True := eq_true (by decide)
theorem ln16 : (16 ≤ LINE) = True := eq_true (by decide)
theorem ln17 : (17 ≤ LINE) = True := eq_true (by decide)
theorem ln18 : (18 ≤ LINE) = True := eq_true (by decide)
theorem ln19 : (19 ≤ LINE) = True := eq_true (by decide)
theorem ln20 : (20 ≤ LINE) = True := eq_true (by decide)
theorem ln21 : (21 ≤ LINE) = True := eq_true (by decide)
theorem ln22 : (22 ≤ LINE) = True := eq_true (by decide)
theorem ln23 : (23 ≤ LINE) = True := eq_true (by decide)
theorem ln24 : (24 ≤ LINE) = True := eq_true (by decide)
theorem ln25 : (25 ≤ LINE) = True := eq_true (by decide)
theorem ln26 : (26 ≤ LINE) = True := eq_true (by decide)
theorem ln27 : (27 ≤ LINE) = True := eq_true (by decide)
theorem ln28 : (28 ≤ LINE) = True := eq_true (by decide)
theorem ln29 : (29 ≤ LINE) = True := eq_true (by decide)
theorem ln30 : (30 ≤ LINE) = True := eq_true (by decide)
theorem ln31 : (31 ≤ LINE) = True := eq_true (by decide)
theorem ln32 : (32 ≤ LINE) = True := eq_true (by decide)
theorem opAtt {G : Nat → Option Fn} {i c : Nat} {f : S} {x : DV} {m : Mu} {k : Post} {e : XPost} : opD G (.att i c f) [x] m k e = attD c (look m x) f fun z => k z m := by
  unfold opD
  exact propext ⟨fun ⟨_, h, h2⟩ => by cases h; exact h2, fun h => ⟨x, rfl, h⟩⟩
theorem opPrp {G : Nat → Option Fn} {i c : Nat} {x : DV} {m : Mu} {k : Post} {e : XPost} : opD G (.prp i c) [x] m k e = (isIns c (look m x) = true ∧ callD G (MT + i) [x] m k (fun _ _ => False)) := by
  unfold opD
  exact propext ⟨fun ⟨_, h, h2⟩ => by cases h; exact h2, fun h => ⟨x, rfl, h⟩⟩
theorem opMk {G : Nat → Option Fn} {i : Nat} {ds : List DV} {m : Mu} {k : Post} {e : XPost} : opD G (.mk i) ds m k e = callD G (MT + i) ds m k e := rfl
theorem opDnil {G : Nat → Option Fn} {m : Mu} {k : Post} {e : XPost} : opD G .dnil [] m k e = k (.dic []) m := by
  unfold opD
  exact propext ⟨fun h => h.2, fun h => ⟨rfl, h⟩⟩
theorem opSrt {G : Nat → Option Fn} {x : DV} {m : Mu} {k : Post} {e : XPost} : opD G .srt [x] m k e = srtD (look m x) fun z => k z m := by
  unfold opD
  exact propext ⟨fun ⟨_, h, h2⟩ => by cases h; exact h2, fun h => ⟨x, rfl, h⟩⟩
theorem srtL {xs : List DV} {k : DV → Prop} : srtD (.lst xs) k = (srtOk xs ∧ k (.lst (xs.mergeSort lev))) := rfl
theorem opIsT {G : Nat → Option Fn} {x : DV} {m : Mu} {k : Post} {e : XPost} : opD G .isT [x] m k e = isTD true (look m x) fun z => k z m := by
  unfold opD
  exact propext ⟨fun ⟨_, h, h2⟩ => by cases h; exact h2, fun h => ⟨x, rfl, h⟩⟩
theorem opNotT {G : Nat → Option Fn} {x : DV} {m : Mu} {k : Post} {e : XPost} : opD G .notT [x] m k e = isTD false (look m x) fun z => k z m := by
  unfold opD
  exact propext ⟨fun ⟨_, h, h2⟩ => by cases h; exact h2, fun h => ⟨x, rfl, h⟩⟩
theorem isTB {b c : Bool} {k : DV → Prop} : isTD b (.bl c) k = k (.bl (c == b)) := rfl
theorem attI {c : Nat} {fs : List (S × DV)} {f : S} {k : DV → Prop} : attD c (.ins c fs) f k = ∃ d, fs.lookup f = some d ∧ k d := by
  unfold attD
  simp
theorem frzL {a : Nat} {m : Mu} {k : Post} : frzD (.loc a) m k = (match m a with
    | some (.lst xs) => k (.lst xs) (m.del a)
    | some (.dic xs) => k (.dic xs) (m.del a)
    | some (.dit xs) => k (.dit xs) (m.del a)
    | some (.ins c xs) => k (.ins c xs) (m.del a)
    | _ => False) := rfl
theorem fldL {c a : Nat} {f : S} {v : DV} {m : Mu} {k : Mu → Prop} : fldD c (.loc a) f v m k = (∃ fs, m a = some (.ins c fs) ∧ fs.length < 100 ∧ k (m.put a (.ins c (putF f v fs)))) := rfl
end O
end Ops
/-- a comprehension that only looks -/
theorem compW_pure {T : DV → Mu → (Option DV → Mu → Prop) → Prop} {src : Mu → Prop} {m : Mu} (f : DV → Option DV) (hsrc : src m) : ∀ {xs acc : List DV} {k : List DV → Mu → Prop}, (∀ x ∈ xs, ∀ kk : Option DV → Mu → Prop, kk (f x) m → T x m kk) → k (acc ++ xs.filterMap f) m → compW T src xs acc m k
  | [], acc, k, _, hk => ⟨hsrc, by simpa using hk⟩
  | x :: xs, acc, k, ht, hk => by
    refine ⟨hsrc, ht x List.mem_cons_self _ ?_⟩
    cases e : f x with
    | none =>
      simp only
      refine compW_pure f hsrc (fun y hy => ht y (List.mem_cons_of_mem _ hy)) ?_
      rw [List.filterMap_cons_none e] at hk
      exact hk
    | some d =>
      simp only
      refine compW_pure f hsrc (fun y hy => ht y (List.mem_cons_of_mem _ hy)) ?_
      rw [List.filterMap_cons_some e] at hk
      simpa using hk
/-- a comprehension by what holds between two turns -/
theorem compW_inv {T : DV → Mu → (Option DV → Mu → Prop) → Prop} {src : Mu → Prop} (I : List DV → List DV → Mu → Prop) {all : List DV} : ∀ {done xs acc : List DV} {m : Mu} {k : List DV → Mu → Prop}, all = done ++ xs → I done acc m →
    (∀ done x rest acc m, all = done ++ x :: rest → I done acc m → ∀ kk : Option DV → Mu → Prop, (∀ d m1, I (done ++ [x]) (acc ++ [d]) m1 → kk (some d) m1) → (∀ m1, I (done ++ [x]) acc m1 → kk none m1) → src m ∧ T x m kk) →
    (∀ acc m, I all acc m → src m ∧ k acc m) → compW T src xs acc m k
  | done, [], acc, m, k, e, h0, _, he => by
    rw [List.append_nil] at e
    subst e
    exact he acc m h0
  | done, x :: xs, acc, m, k, e, h0, hs, he => by
    have e' : all = (done ++ [x]) ++ xs := by rw [e]; simp
    exact hs done x xs acc m e h0 _ (fun d m1 h => compW_inv I e' h hs he) (fun m1 h => compW_inv I e' h hs he)
/-- a for by what holds between two turns -/
theorem forW_inv {p : Pat} {src : Mu → Prop} {body : Ends → Env → Mu → Prop} {D : Ends} (I : List DV → Env → Mu → Prop) {all : List DV} : ∀ {done xs : List DV} {r : Env} {m : Mu}, all = done ++ xs → I done r m →
    (∀ done x rest r m, all = done ++ x :: rest → I done r m → ∀ K : Env → Mu → Prop, (∀ r' m', I (done ++ [x]) r' m' → K r' m') → src m ∧ bindP p x r m fun r1 => body { D with nx := K, ct := K, bk := D.nx } r1 m) →
    (∀ r m, I all r m → src m ∧ D.nx r m) → forW p src body D xs r m
  | done, [], r, m, e, h0, _, he => by
    rw [List.append_nil] at e
    subst e
    exact he r m h0
  | done, x :: xs, r, m, e, h0, hs, he => by
    have e' : all = (done ++ [x]) ++ xs := by rw [e]; simp
    exact hs done x xs r m e h0 _ fun r' m' h => forW_inv I e' h hs he
/-- a for over what stands for the items of l -/
theorem forW_map {α : Type} {f : α → DV} {p : Pat} {src : Mu → Prop} {body : Ends → Env → Mu → Prop} {D : Ends} (I : List α → Env → Mu → Prop) {l : List α} {r : Env} {m : Mu} (h0 : I [] r m)
    (hs : ∀ done x rest r m, l = done ++ x :: rest → I done r m → ∀ K : Env → Mu → Prop, (∀ r' m', I (done ++ [x]) r' m' → K r' m') → src m ∧ bindP p (f x) r m fun r1 => body { D with nx := K, ct := K, bk := D.nx } r1 m)
    (he : ∀ r m, I l r m → src m ∧ D.nx r m) : forW p src body D (l.map f) r m := by
  have main : ∀ (xs done : List α) (r : Env) (m : Mu), l = done ++ xs → I done r m → forW p src body D (xs.map f) r m := by
    intro xs
    induction xs with
    | nil =>
      intro done r m e h
      rw [List.append_nil] at e
      subst e
      exact he r m h
    | cons x t ih =>
      intro done r m e h
      exact hs done x t r m e h _ fun r' m' h' => ih (done ++ [x]) r' m' (by rw [e]; simp) h'
  exact main l [] r m rfl h0
/-- a while by what holds and a number that falls -/
theorem whlW_inv {G : Nat → Option Fn} {t : Ts} {body : Ends → Env → Mu → Prop} {D : Ends} (I : Nat → Env → Mu → Prop)
    (hs : ∀ n r m, I n r m → ∀ K : Env → Mu → Prop, (∀ n' r' m', n' < n → I n' r' m' → K r' m') → rdT G t r m (fun c m1 => if c = true then body { D with nx := K, ct := K, bk := D.nx } r m1 else D.nx r m1) (fun x m => D.ex x r m)) :
    ∀ {n N : Nat} {r : Env} {m : Mu}, n < N → I n r m → whlW G t body D N r m := by
  intro n N
  induction N generalizing n with
  | zero => intro r m h _; omega
  | succ N ih =>
    intro r m h h0
    exact hs n r m h0 _ fun n' r' m' hn hI => ih (by omega) hI
theorem cut1 {α : Type} {x : α} {r : List α} : cut (x :: r) (some 1) none = r := by
  have e : sIx (x :: r).length 0 (some 1) = 1 := by
    show min 1 (r.length + 1) = 1
    omega
  unfold cut
  rw [e]
  show List.take (r.length + 1 - 1) r = r
  simp
theorem iteT {c : Prop} {d : Decidable c} {A B : Prop} (h : c) (a : A) : @ite Prop c d A B := by rw [if_pos h]; exact a
theorem iteF {c : Prop} {d : Decidable c} {A B : Prop} (h : ¬c) (b : B) : @ite Prop c d A B := by rw [if_neg h]; exact b
theorem iteJ {c : Prop} {d : Decidable c} {A B : Prop} (h1 : c → A) (h2 : ¬c → B) : @ite Prop c d A B := by
  by_cases h : c
  · exact iteT h (h1 h)
  · exact iteF h (h2 h)
/-- an if without more: what is known behind it, whichever way -/
theorem ite_join {c : Bool} {A B : Prop} (h1 : c = true → A) (h2 : c = false → B) : if c = true then A else B := by
  cases c with
  | true => exact h1 rfl
  | false => exact h2 rfl
theorem look_locI {m : Mu} {a c : Nat} {fs : List (S × DV)} (h : m a = some (.ins c fs)) : look m (.loc a) = .ins c fs := by
  unfold look
  simp only [h]
/-! calls -/
theorem callP {G : Nat → Option Fn} {f : Nat} {s : PSp} {ds : List DV} {m : Mu} {k : Post} {e : XPost} (h : G f = some (.pure s)) : callD G f ds m k e = s (ds.map (look m)) (fun d => (ds.any isLoc = true → noMut d = true) ∧ k d m) (fun x => (ds.any isLoc = true → noMut x.arg = true) ∧ e x m) := by
  unfold callD
  rw [h]
theorem callG {G : Nat → Option Fn} {f : Nat} {s : FSp} {ds : List DV} {m : Mu} {k : Post} {e : XPost} (h : G f = some (.gen s)) : callD G f ds m k e = s ds m k e := by
  unfold callD
  rw [h]
/-! comprehensions over what stands for the items of a list -/
section
variable {α : Type} {f : α → DV} {T : DV → Mu → (Option DV → Mu → Prop) → Prop} {src : Mu → Prop} {m : Mu} {l : List α} {k : List DV → Mu → Prop}
theorem compW_fm (g : α → Option DV) (hsrc : src m) (ht : ∀ x ∈ l, ∀ kk : Option DV → Mu → Prop, kk (g x) m → T (f x) m kk) (hk : k (l.filterMap g) m) : compW T src (l.map f) [] m k := by
  have main : ∀ (l : List α) (acc : List DV) (k : List DV → Mu → Prop), (∀ x ∈ l, ∀ kk : Option DV → Mu → Prop, kk (g x) m → T (f x) m kk) → k (acc ++ l.filterMap g) m → compW T src (l.map f) acc m k := by
    intro l
    induction l with
    | nil =>
      intro acc k _ hk
      exact ⟨hsrc, by simpa using hk⟩
    | cons x t ih =>
      intro acc k ht hk
      refine ⟨hsrc, ht x List.mem_cons_self _ ?_⟩
      cases e : g x with
      | none =>
        refine ih acc k (fun y hy => ht y (List.mem_cons_of_mem _ hy)) ?_
        rw [List.filterMap_cons_none e] at hk
        exact hk
      | some d =>
        refine ih (acc ++ [d]) k (fun y hy => ht y (List.mem_cons_of_mem _ hy)) ?_
        rw [List.filterMap_cons_some e] at hk
        simpa using hk
  exact main l [] k ht (by simpa using hk)
theorem fm_flt (p : α → Bool) (f : α → DV) : ∀ l : List α, l.filterMap (fun x => if p x then some (f x) else none) = (l.filter p).map f
  | [] => rfl
  | x :: t => by
    cases e : p x with
    | true => rw [List.filterMap_cons_some (b := f x) (by simp [e]), List.filter_cons_of_pos e, List.map_cons, fm_flt p f t]
    | false => rw [List.filterMap_cons_none (by simp [e]), List.filter_cons_of_neg (by simp [e]), fm_flt p f t]
theorem compW_flt (p : α → Bool) (hsrc : src m) (ht : ∀ x ∈ l, ∀ kk : Option DV → Mu → Prop, (if p x = true then kk (some (f x)) m else kk none m) → T (f x) m kk) (hk : k ((l.filter p).map f) m) : compW T src (l.map f) [] m k := by
  refine compW_fm (fun x => if p x then some (f x) else none) hsrc (fun x hx kk h => ht x hx kk ?_) (by rw [fm_flt]; exact hk)
  cases e : p x with
  | true => simpa [e] using h
  | false => simpa [e] using h
theorem compW_mp (g : α → DV) (hsrc : src m) (ht : ∀ x ∈ l, ∀ kk : Option DV → Mu → Prop, kk (some (g x)) m → T (f x) m kk) (hk : k (l.map g) m) : compW T src (l.map f) [] m k := by
  refine compW_fm (fun x => some (g x)) hsrc ht ?_
  have e : l.filterMap (fun x => some (g x)) = l.map g := by
    clear ht hk
    induction l with
    | nil => rfl
    | cons x t ih =>
      show g x :: t.filterMap (fun x => some (g x)) = g x :: t.map g
      rw [ih]
  rw [e]
  exact hk
end
end DL

set_option linter.all false
namespace DL
/-! DLV: data of texts -/
theorem plain_str {s : S} : plain (.str s) = true := rfl
theorem plain_int {i : Int} : plain (.int i) = true := rfl
theorem plain_bl {i : Bool} : plain (.bl i) = true := rfl
theorem plain_non : plain .non = true := rfl
theorem plain_tup {xs : List DV} : plain (.tup xs) = plains xs := by unfold plain; rfl
theorem plain_lst {xs : List DV} : plain (.lst xs) = plains xs := by unfold plain; rfl
theorem plains_nil : plains [] = true := rfl
theorem plains_cons {x : DV} {r : List DV} : plains (x :: r) = (plain x && plains r) := by conv => lhs; unfold plains
theorem depth_str {s : S} : depth (.str s) = 0 := rfl
theorem depth_int {s : Int} : depth (.int s) = 0 := rfl
theorem depth_bl {s : Bool} : depth (.bl s) = 0 := rfl
theorem depth_non : depth .non = 0 := rfl
theorem depth_tup {xs : List DV} : depth (.tup xs) = depths xs + 1 := by conv => lhs; unfold depth
theorem depth_lst {xs : List DV} : depth (.lst xs) = depths xs + 1 := by conv => lhs; unfold depth
theorem depths_nil : depths [] = 0 := rfl
theorem depths_cons {x : DV} {r : List DV} : depths (x :: r) = max (depth x) (depths r) := by conv => lhs; unfold depths
theorem plains_map {α : Type} {f : α → DV} (h : ∀ a, plain (f a) = true) : ∀ l : List α, plains (l.map f) = true
  | [] => rfl
  | a :: r => by rw [List.map_cons, plains_cons, h, plains_map h r]; rfl
theorem depths_map {α : Type} {f : α → DV} {n : Nat} (h : ∀ a, depth (f a) ≤ n) : ∀ l : List α, depths (l.map f) ≤ n
  | [] => Nat.zero_le _
  | a :: r => by
    rw [List.map_cons, depths_cons]
    have := depths_map h r
    have := h a
    omega
theorem plains_strs {l : List S} : plains (l.map DV.str) = true := plains_map (fun _ => rfl) l
theorem depths_strs {l : List S} : depths (l.map DV.str) = 0 := Nat.le_zero.mp (depths_map (fun _ => Nat.le_refl 0) l)
theorem plains_ints {l : List Int} : plains (l.map DV.int) = true := plains_map (fun _ => rfl) l
theorem depths_ints {l : List Int} : depths (l.map DV.int) = 0 := Nat.le_zero.mp (depths_map (fun _ => Nat.le_refl 0) l)
theorem plains_app : ∀ {a b : List DV}, plains (a ++ b) = (plains a && plains b)
  | [], _ => by simp [plains_nil]
  | x :: r, b => by rw [List.cons_append, plains_cons, plains_cons, plains_app, Bool.and_assoc]
theorem depths_app : ∀ {a b : List DV}, depths (a ++ b) = max (depths a) (depths b)
  | [], _ => by simp [depths_nil]
  | x :: r, b => by rw [List.cons_append, depths_cons, depths_cons, depths_app]; omega
/-! equality -/
theorem eqv_str {a b : S} : eqv (.str a) (.str b) = (a == b) := by unfold eqv; rfl
theorem eqv_int {a b : Int} : eqv (.int a) (.int b) = (a == b) := by unfold eqv; rfl
theorem eqv_bl {a b : Bool} : eqv (.bl a) (.bl b) = (a == b) := by unfold eqv; rfl
theorem eqv_tup {a b : List DV} : eqv (.tup a) (.tup b) = eqvs a b := by unfold eqv; rfl
theorem eqv_lst {a b : List DV} : eqv (.lst a) (.lst b) = eqvs a b := by unfold eqv; rfl
theorem eqvs_nil : eqvs [] [] = true := by unfold eqvs; rfl
theorem eqvs_cons {x y : DV} {r s : List DV} : eqvs (x :: r) (y :: s) = (eqv x y && eqvs r s) := by conv => lhs; unfold eqvs
theorem eqvs_nc {y : DV} {s : List DV} : eqvs [] (y :: s) = false := by unfold eqvs; rfl
theorem eqvs_cn {y : DV} {s : List DV} : eqvs (y :: s) [] = false := by unfold eqvs; rfl
theorem eqvs_map {α : Type} [DecidableEq α] {f : α → DV} (h : ∀ a b, eqv (f a) (f b) = decide (a = b)) : ∀ a b : List α, eqvs (a.map f) (b.map f) = decide (a = b)
  | [], [] => by simp [eqvs_nil]
  | [], _ :: _ => by simp [eqvs_nc]
  | _ :: _, [] => by simp [eqvs_cn]
  | x :: r, y :: s => by
    rw [List.map_cons, List.map_cons, eqvs_cons, h, eqvs_map h r s]
    simp only [List.cons.injEq]
    by_cases h1 : x = y <;> by_cases h2 : r = s <;> simp [h1, h2]
theorem eqv_strD {a b : S} : eqv (.str a) (.str b) = decide (a = b) := by
  rw [eqv_str]
  by_cases h : a = b <;> simp [h]
theorem eqvs_strs {a b : List S} : eqvs (a.map DV.str) (b.map DV.str) = decide (a = b) := eqvs_map (fun _ _ => eqv_strD) a b
theorem eqv_tupS {a b : List S} : eqv (.tup (a.map DV.str)) (.tup (b.map DV.str)) = decide (a = b) := by rw [eqv_tup, eqvs_strs]
theorem any_strs {l : List S} {x : S} : ((l.map DV.str).any fun z => eqv z (.str x)) = decide (x ∈ l) := by
  induction l with
  | nil => simp
  | cons a r ih =>
    rw [List.map_cons, List.any_cons, ih, eqv_strD]
    by_cases h1 : a = x
    · subst h1; simp
    · have h2 : ¬ x = a := fun e => h1 e.symm
      simp [h1, h2]
theorem any_tupS {l : List (List S)} {x : List S} : ((l.map fun z => DV.tup (z.map DV.str)).any fun z => eqv z (.tup (x.map DV.str))) = decide (x ∈ l) := by
  induction l with
  | nil => simp
  | cons a r ih =>
    rw [List.map_cons, List.any_cons, ih, eqv_tupS]
    by_cases h1 : a = x
    · subst h1; simp
    · have h2 : ¬ x = a := fun e => h1 e.symm
      simp [h1, h2]
theorem bls_map {α : Type} {f : α → Bool} : ∀ l : List α, bls? (l.map fun x => DV.bl (f x)) = some (l.map f)
  | [] => rfl
  | a :: r => by simp only [List.map_cons, bls?, bls_map r, Option.map_some]
theorem strs_map : ∀ l : List S, strs? (l.map DV.str) = some l
  | [] => rfl
  | a :: r => by simp only [List.map_cons, strs?, strs_map r, Option.map_some]
theorem any_idm {α : Type} {f : α → Bool} {l : List α} : (l.map f).any id = l.any f := by rw [List.any_map]; rfl
theorem all_idm {α : Type} {f : α → Bool} {l : List α} : (l.map f).all id = l.all f := by rw [List.all_map]; rfl
/-! rows, shapes -/
abbrev Row := List S × List S
def strT (l : List S) : DV := .tup (l.map .str)
def rowD (r : Row) : DV := .tup [strT r.1, strT r.2]
structure Sh where
  names : List S
  rows : List Row
def nmN : S := [110, 97, 109, 101, 115]
def nmL : S := [108, 105, 110, 101, 115]
def shD (s : Sh) : DV := .ins 0 [(nmN, strT s.names), (nmL, .tup (s.rows.map rowD))]
/-- of some few names, no name twice in a row -/
structure ShOk (s : Sh) : Prop where
  n0 : 1 ≤ s.names.length
  n8 : s.names.length ≤ 8
  r8 : s.rows.length ≤ 8
  nd : s.names.Nodup
  sub : ∀ r ∈ s.rows, (∀ x ∈ r.1, x ∈ s.names) ∧ (∀ x ∈ r.2, x ∈ s.names)
  rnd : ∀ r ∈ s.rows, (r.1 ++ r.2).Nodup
theorem nodup_len {l n : List S} (h : l.Nodup) (hs : ∀ x ∈ l, x ∈ n) : l.length ≤ n.length := by
  induction l generalizing n with
  | nil => simp
  | cons a r ih =>
    have ha : a ∈ n := hs a List.mem_cons_self
    rw [List.nodup_cons] at h
    have := ih h.2 (n := n.erase a) fun x hx => by
      have hne : x ≠ a := fun e => h.1 (e ▸ hx)
      exact (List.mem_erase_of_ne hne).mpr (hs x (List.mem_cons_of_mem _ hx))
    rw [List.length_erase_of_mem ha] at this
    have h1 : 0 < n.length := List.length_pos_of_mem ha
    rw [List.length_cons]
    omega
theorem ShOk.len {s : Sh} (h : ShOk s) {r : Row} (hr : r ∈ s.rows) : r.1.length + r.2.length ≤ 8 := by
  have h1 := nodup_len (h.rnd r hr) fun x hx => by
    rcases List.mem_append.mp hx with z | z
    · exact (h.sub r hr).1 x z
    · exact (h.sub r hr).2 x z
  rw [List.length_append] at h1
  exact Nat.le_trans h1 h.n8
/-! values that are asked for -/
/-- plain data of small depth, or {} -/
def vOk (v : DV) : Prop := v = .dic [] ∨ (plain v = true ∧ depth v ≤ 40)
def kindB : Kind → DV → Bool
  | .int, .bl _ => true
  | .int, .int _ => true
  | .bool, .bl _ => true
  | .str, .str _ => true
  | .tuple, .tup _ => true
  | .list, .lst _ => true
  | .dict, .dic _ => true
  | _, _ => false
def kPl : Kind → Bool
  | .ins _ => false
  | _ => true
theorem isiV {v : DV} (h : vOk v) {k : Kind} (hk : kPl k = true) : isiD k v = some (kindB k v) := by
  rcases h with rfl | ⟨h, _⟩
  · cases k <;> first | rfl | (cases hk)
  · cases v <;> first | (simp [plain] at h; done) | (cases k <;> first | rfl | (cases hk))
theorem vOk.look {v : DV} (h : vOk v) {m : Mu} : look m v = v := by
  rcases h with rfl | ⟨h, _⟩
  · rfl
  · cases v <;> first | rfl | (simp [plain] at h)
theorem vOk.nl {v : DV} (h : vOk v) : isLoc v = false := by
  rcases h with rfl | ⟨h, _⟩
  · rfl
  · cases v <;> first | rfl | (simp [plain] at h)
theorem vOk_strT {l : List S} : vOk (strT l) := .inr ⟨by unfold strT; rw [plain_tup, plains_strs], by unfold strT; rw [depth_tup, depths_strs]; decide⟩
theorem vOk_str {l : S} : vOk (.str l) := .inr ⟨rfl, by rw [depth_str]; decide⟩
end DL
namespace DL
/-! ### loops -/
def enumP {α : Type} : Nat → List α → List (Nat × α)
  | _, [] => []
  | n, x :: t => (n, x) :: enumP (n + 1) t
theorem enumL_map {α : Type} (f : α → DV) (l : List α) : enumL (l.map f) = (enumP 0 l).map fun p => .tup [.int (p.1 : Int), f p.2] := by
  have main : ∀ (l : List α) (n : Nat), ((List.range l.length).map (n + ·)).zipWith (fun (i : Nat) x => DV.tup [.int (i : Int), x]) (l.map f) = (enumP n l).map fun p => .tup [.int (p.1 : Int), f p.2] := by
    intro l
    induction l with
    | nil => intro n; rfl
    | cons x t ih =>
      intro n
      rw [List.length_cons, List.range_succ_eq_map]
      simp only [List.map_cons, List.map_map, List.zipWith_cons_cons, Nat.add_zero, enumP]
      congr 1
      rw [← ih (n + 1)]
      congr 1
      refine List.map_congr_left fun i _ => ?_
      show n + (i + 1) = n + 1 + i
      omega
  have h := main l 0
  unfold enumL
  rw [List.length_map]
  rw [← h]
  congr 1
  conv => lhs; rw [← List.map_id (List.range l.length)]
  refine List.map_congr_left fun i _ => ?_
  show i = 0 + i
  omega
/-- a for that looks for something -/
theorem forW_fs {α β : Type} {f : α → DV} {p : Pat} {src : Mu → Prop} {body : Ends → Env → Mu → Prop} {D : Ends} {m : Mu} (q : α → Option β) (I : Env → Prop) (Fd : β → Prop) : ∀ {l : List α} {r : Env}, I r →
    (∀ x ∈ l, ∀ r, I r → ∀ K : Env → Mu → Prop, ((∃ b, q x = some b ∧ Fd b) ∨ (q x = none ∧ ∀ r', I r' → K r' m)) → src m ∧ bindP p (f x) r m fun r1 => body { D with nx := K, ct := K, bk := D.nx } r1 m) →
    (∀ b, l.findSome? q = some b → Fd b) → (l.findSome? q = none → ∀ r, I r → src m ∧ D.nx r m) → forW p src body D (l.map f) r m
  | [], r, h0, _, _, h2 => h2 rfl r h0
  | x :: t, r, h0, hs, h1, h2 => by
    refine hs x List.mem_cons_self r h0 _ ?_
    cases e : q x with
    | some b => exact .inl ⟨b, rfl, h1 b (by rw [List.findSome?_cons, e])⟩
    | none =>
      refine .inr ⟨rfl, fun r' h' => ?_⟩
      exact forW_fs q I Fd h' (fun y hy => hs y (List.mem_cons_of_mem _ hy)) (fun b hb => h1 b (by rw [List.findSome?_cons, e]; exact hb)) (fun hn => h2 (by rw [List.findSome?_cons, e]; exact hn))
theorem whwW_inv {G : Nat → Option Fn} {i : Nat} {a : Ex} {body : Ends → Env → Mu → Prop} {D : Ends} (I : Nat → Env → Mu → Prop)
    (hs : ∀ n r m, I n r m → ∀ K : Env → Mu → Prop, (∀ n' r' m', n' < n → I n' r' m' → K r' m') → i < r.length ∧ rdE G a r m (fun d m1 => if isNonD d = true then D.nx (r.set i (some d)) m1 else body { D with nx := K, ct := K, bk := D.nx } (r.set i (some d)) m1) (fun x m => D.ex x r m)) :
    ∀ {n N : Nat} {r : Env} {m : Mu}, n < N → I n r m → whwW G i a body D N r m := by
  intro n N
  induction N generalizing n with
  | zero => intro r m h _; omega
  | succ N ih =>
    intro r m h h0
    exact hs n r m h0 _ fun n' r' m' hn hI => ih (by omega) hI
/-! ### sorting texts -/
def leS (a b : S) : Bool := !decide (b < a)
def sortS (l : List S) : List S := l.mergeSort leS
theorem sort_strs (l : List S) : (l.map DV.str).mergeSort lev = (sortS l).map DV.str := by
  unfold sortS
  exact (List.map_mergeSort fun a _ b _ => by simp [lev, ltv, leS]).symm
theorem srtOk_strs (l : List S) : srtOk (l.map DV.str) := by
  refine ⟨fun a ha b hb => ?_, .inr fun a ha => ?_, plains_strs, by rw [depths_strs]; decide⟩
  · obtain ⟨x, _, rfl⟩ := List.mem_map.mp ha
    obtain ⟨y, _, rfl⟩ := List.mem_map.mp hb
    simp [alk]
  · obtain ⟨x, _, rfl⟩ := List.mem_map.mp ha
    rfl
/-- what stood stays -/
def Kp (m m' : Mu) : Prop := ∀ c o, m c = some o → m' c = some o
theorem Kp.rfl' {m : Mu} : Kp m m := fun _ _ h => h
theorem Kp.trans {a b c : Mu} (h : Kp a b) (h' : Kp b c) : Kp a c := fun x o e => h' x o (h x o e)
theorem Kp.put {m m' : Mu} {a : Nat} {o : DO} (h : Kp m m') (ha : m a = none) : Kp m (m'.put a o) := fun c o' e => by
  rw [put_ne (ne_of_some e ha)]
  exact h c o' e
end DL
namespace DL
theorem range_split {n : Nat} {done rest : List Nat} {x : Nat} (h : List.range n = done ++ x :: rest) : x = done.length ∧ x < n := by
  have hl := congrArg List.length h
  simp only [List.length_range, List.length_append, List.length_cons] at hl
  have h1 : (List.range n)[done.length]? = some x := by rw [h]; simp
  rw [List.getElem?_range (by omega)] at h1
  have := Option.some.inj h1
  omega
end DL

set_option linter.all false
namespace TB
/-! generated by gen2.py -/
def txt1 : DL.S := [97, 98, 99, 100, 101, 102, 103, 104, 105, 106, 107, 108, 109, 110, 111, 112, 113, 114, 115, 116, 117, 118, 119, 120, 121, 122]
def txt2 : DL.S := [48, 49, 50, 51, 52, 53, 54, 55, 56, 57]
def B_wall_b1 : DL.Sts := .cons (.pass) .nil
def B_wall : DL.Sts := .cons (.whl (.ex (.cst (.bl true))) B_wall_b1) .nil
-- B_wall: N ['k']; calls []; mts []; exs []
def B_valid_name_b1 : DL.Sts := .cons (.ret (.cst (.bl false))) .nil
def B_valid_name_b3 : DL.Sts := .cons (.ret (.cst (.bl false))) .nil
def B_valid_name_b2 : DL.Sts := .cons (.ifs (.and (.ex (.cmp .notin (.var 1) (.cst (.str txt1)))) (.ex (.cmp .notin (.var 1) (.cst (.str txt2))))) B_valid_name_b3 .nil) .nil
def B_valid_name_t2 : DL.Sts := .cons (.ret (.cst (.bl true))) .nil
def B_valid_name_t1 : DL.Sts := .cons (.fr (.name 1) (.seq (.var 0)) B_valid_name_b2) B_valid_name_t2
def B_valid_name : DL.Sts := .cons (.ifs (.or (.not (.ex (.cmp2 .le .le (.cst (.int 1)) (.blt .len (.cons (.var 0) .nil)) (.cst (.int 6))))) (.ex (.cmp .notin (.sub (.var 0) (.cst (.int 0))) (.cst (.str txt1))))) B_valid_name_b1 .nil) B_valid_name_t1
-- B_valid_name: N ['text', 'char']; calls []; mts []; exs []
def B_is_part_b1 : DL.Sts := .cons (.ret (.cst (.bl false))) .nil
def B_is_part_t1 : DL.Sts := .cons (.ret (.cmp .eq (.blt .list (.cons (.var 1) .nil)) (.comp (.name 2) [2] (.seq (.var 0)) (.ex (.cmp .isin (.var 2) (.var 1))) (.var 2)))) .nil
def B_is_part : DL.Sts := .cons (.ifs (.not (.ex (.isi (.var 1) .tuple))) B_is_part_b1 .nil) B_is_part_t1
-- B_is_part: N ['names', 'value', 'name']; calls []; mts []; exs []
def B_is_integer : DL.Sts := .cons (.ret (.andv (.isi (.var 0) .int) (.notv (.isi (.var 0) .bool)))) .nil
-- B_is_integer: N ['value']; calls []; mts []; exs []
def B_is_set : DL.Sts := .cons (.ret (.call 0 (.cons (.var 0) (.cons (.var 1) .nil)))) .nil
-- B_is_set: N ['names', 'value']; calls [('is_part', ())]; mts []; exs []
def B_check_unknowns_b1 : DL.Sts := .cons (.rse 3 (.blt .len (.cons (.var 0) .nil))) .nil
def B_check_unknowns_b3 : DL.Sts := .cons (.rse 0 (.var 2)) .nil
def B_check_unknowns_b4 : DL.Sts := .cons (.rse 1 (.var 2)) .nil
def B_check_unknowns_b2_t2 : DL.Sts := .cons (.exp (.met .append (.var 1) (.cons (.var 2) .nil))) .nil
def B_check_unknowns_b2_t1 : DL.Sts := .cons (.ifs (.ex (.cmp .isin (.var 2) (.var 1))) B_check_unknowns_b4 .nil) B_check_unknowns_b2_t2
def B_check_unknowns_b2 : DL.Sts := .cons (.ifs (.not (.ex (.call 1 (.cons (.var 2) .nil)))) B_check_unknowns_b3 .nil) B_check_unknowns_b2_t1
def B_check_unknowns_t2 : DL.Sts := .cons (.fr (.name 2) (.seq (.var 0)) B_check_unknowns_b2) .nil
def B_check_unknowns_t1 : DL.Sts := .cons (.set (.name 1) (.own (.lst .nil))) B_check_unknowns_t2
def B_check_unknowns : DL.Sts := .cons (.ifs (.not (.ex (.cmp2 .le .le (.cst (.int 1)) (.blt .len (.cons (.var 0) .nil)) (.cst (.int 8))))) B_check_unknowns_b1 .nil) B_check_unknowns_t1
-- B_check_unknowns: N ['names', 'earlier', 'name']; calls [('valid_name', ())]; mts []; exs [0, 1, 3]
def B_is_row_b1 : DL.Sts := .cons (.ret (.cst (.bl false))) .nil
def B_is_row_b2 : DL.Sts := .cons (.ret (.cst (.bl false))) .nil
def B_is_row_t2 : DL.Sts := .cons (.ret (.notv (.blt .any (.cons (.comp (.name 2) [2] (.seq (.sub (.var 1) (.cst (.int 0)))) (.yes) (.cmp .isin (.var 2) (.sub (.var 1) (.cst (.int 1))))) .nil)))) .nil
def B_is_row_t1 : DL.Sts := .cons (.ifs (.or (.not (.ex (.call 0 (.cons (.var 0) (.cons (.sub (.var 1) (.cst (.int 0))) .nil))))) (.not (.ex (.call 0 (.cons (.var 0) (.cons (.sub (.var 1) (.cst (.int 1))) .nil)))))) B_is_row_b2 .nil) B_is_row_t2
def B_is_row : DL.Sts := .cons (.ifs (.or (.not (.ex (.isi (.var 1) .tuple))) (.ex (.cmp .ne (.blt .len (.cons (.var 1) .nil)) (.cst (.int 2))))) B_is_row_b1 .nil) B_is_row_t1
-- B_is_row: N ['names', 'value', 'name']; calls [('is_part', ())]; mts []; exs []
def B_set_text : DL.Sts := .cons (.ret (.ife (.ex (.cmp .gt (.blt .len (.cons (.var 0) .nil)) (.cst (.int 0)))) (.met .join (.cst (.str [32])) (.cons (.var 0) .nil)) (.cst (.str [45])))) .nil
-- B_set_text: N ['names']; calls []; mts []; exs []
def B_Shape___init___b1 : DL.Sts := .cons (.rse 3 (.blt .len (.cons (.var 2) .nil))) .nil
def B_Shape___init___b3 : DL.Sts := .cons (.rse 5 (.var 3)) .nil
def B_Shape___init___b2 : DL.Sts := .cons (.ifs (.not (.ex (.call 4 (.cons (.op (.att 0 0 [110, 97, 109, 101, 115]) (.cons (.var 0) .nil)) (.cons (.var 3) .nil))))) B_Shape___init___b3 .nil) .nil
def B_Shape___init___t4 : DL.Sts := .cons (.fld (.var 0) 1 0 [108, 105, 110, 101, 115] (.blt .tuple (.cons (.var 2) .nil))) .nil
def B_Shape___init___t3 : DL.Sts := .cons (.fr (.name 3) (.seq (.var 2)) B_Shape___init___b2) B_Shape___init___t4
def B_Shape___init___t2 : DL.Sts := .cons (.ifs (.ex (.cmp .gt (.blt .len (.cons (.var 2) .nil)) (.cst (.int 8)))) B_Shape___init___b1 .nil) B_Shape___init___t3
def B_Shape___init___t1 : DL.Sts := .cons (.fld (.var 0) 0 0 [110, 97, 109, 101, 115] (.blt .tuple (.cons (.op .srt (.cons (.var 1) .nil)) .nil))) B_Shape___init___t2
def B_Shape___init__ : DL.Sts := .cons (.exp (.call 3 (.cons (.var 1) .nil))) B_Shape___init___t1
-- B_Shape___init__: N ['self', 'unknowns', 'rows', 'row']; calls [('check_unknowns', ()), ('is_row', ())]; mts ['3|Shape|names', '3|Shape|lines']; exs [3, 5]
def B_Shape_unknowns : DL.Sts := .cons (.ret (.op (.att 0 0 [110, 97, 109, 101, 115]) (.cons (.var 0) .nil))) .nil
-- B_Shape_unknowns: N ['self']; calls []; mts ['3|Shape|names']; exs []
def B_Shape_rows : DL.Sts := .cons (.ret (.op (.att 1 0 [108, 105, 110, 101, 115]) (.cons (.var 0) .nil))) .nil
-- B_Shape_rows: N ['self']; calls []; mts ['3|Shape|lines']; exs []
def B_Shape___str__ : DL.Sts := .cons (.ret (.met .join (.cst (.str [59, 32])) (.cons (.lst (.one (.met .join (.cst (.str [32])) (.cons (.op (.att 0 0 [110, 97, 109, 101, 115]) (.cons (.var 0) .nil)) .nil)) (.star (.comp (.name 1) [1] (.seq (.op (.att 1 0 [108, 105, 110, 101, 115]) (.cons (.var 0) .nil))) (.yes) (.call 5 (.cons (.var 1) .nil))) .nil))) .nil))) .nil
-- B_Shape___str__: N ['self', 'row']; calls [('row_text', ())]; mts ['3|Shape|lines', '3|Shape|names']; exs []
def B_Shape_check_unknown_b1 : DL.Sts := .cons (.rse 2 (.var 1)) .nil
def B_Shape_check_unknown : DL.Sts := .cons (.ifs (.ex (.cmp .notin (.var 1) (.op (.att 0 0 [110, 97, 109, 101, 115]) (.cons (.var 0) .nil)))) B_Shape_check_unknown_b1 .nil) .nil
-- B_Shape_check_unknown: N ['self', 'name']; calls []; mts ['3|Shape|names']; exs [2]
def B_Shape_occurs : DL.Sts := .cons (.exp (.call 6 (.cons (.cst (.int 0)) .nil))) .nil
-- B_Shape_occurs: N ['self', 'number', 'name']; calls [('_wall', ())]; mts []; exs []
def B_Shape_stands_t2 : DL.Sts := .cons (.ret (.tup (.one (.blt .tuple (.cons (.var 2) .nil)) (.one (.blt .tuple (.cons (.comp (.pair (.name 3) (.name 4)) [3, 4] (.enum (.op (.att 1 0 [108, 105, 110, 101, 115]) (.cons (.var 0) .nil))) (.ex (.cmp .isin (.var 1) (.sub (.var 4) (.cst (.int 1))))) (.var 3)) .nil)) .nil)))) .nil
def B_Shape_stands_t1 : DL.Sts := .cons (.set (.name 2) (.comp (.pair (.name 3) (.name 4)) [3, 4] (.enum (.op (.att 1 0 [108, 105, 110, 101, 115]) (.cons (.var 0) .nil))) (.ex (.cmp .isin (.var 1) (.sub (.var 4) (.cst (.int 0))))) (.var 3))) B_Shape_stands_t2
def B_Shape_stands : DL.Sts := .cons (.exp (.mth 2 0 [99, 104, 101, 99, 107, 95, 117, 110, 107, 110, 111, 119, 110] (.var 0) (.cons (.var 1) .nil))) B_Shape_stands_t1
-- B_Shape_stands: N ['self', 'name', 'sure', 'number', 'row']; calls []; mts ['1|Shape|check_unknown', '3|Shape|lines']; exs []
def B_Shape_turned : DL.Sts := .cons (.exp (.call 6 (.cons (.cst (.int 1)) .nil))) .nil
-- B_Shape_turned: N ['self']; calls [('_wall', ())]; mts []; exs []
def B_Shape_without : DL.Sts := .cons (.exp (.call 6 (.cons (.cst (.int 2)) .nil))) .nil
-- B_Shape_without: N ['self', 'wanted']; calls [('_wall', ())]; mts []; exs []
def B_Shape_with_row : DL.Sts := .cons (.exp (.call 6 (.cons (.cst (.int 3)) .nil))) .nil
-- B_Shape_with_row: N ['self', 'sure', 'perhaps']; calls [('_wall', ())]; mts []; exs []
def B_Shape_without_row : DL.Sts := .cons (.exp (.call 6 (.cons (.cst (.int 4)) .nil))) .nil
-- B_Shape_without_row: N ['self', 'number']; calls [('_wall', ())]; mts []; exs []
def B_check_readings_b1 : DL.Sts := .cons (.rse 4 (.var 1)) .nil
def B_check_readings : DL.Sts := .cons (.ifs (.not (.ex (.call 7 (.cons (.op (.prp 3 0) (.cons (.var 0) .nil)) (.cons (.var 1) .nil))))) B_check_readings_b1 .nil) .nil
-- B_check_readings: N ['shape', 'readings']; calls [('is_set', ())]; mts ['0|Shape|unknowns']; exs [4]
def B_check_name_b1 : DL.Sts := .cons (.rse 2 (.var 1)) .nil
def B_check_name : DL.Sts := .cons (.ifs (.ex (.cmp .notin (.var 1) (.op (.prp 3 0) (.cons (.var 0) .nil)))) B_check_name_b1 .nil) .nil
-- B_check_name: N ['shape', 'name']; calls []; mts ['0|Shape|unknowns']; exs [2]
def B_is_step_b1 : DL.Sts := .cons (.ret (.cst (.bl false))) .nil
def B_is_step_b2 : DL.Sts := .cons (.ret (.cst (.bl false))) .nil
def B_is_step_t4 : DL.Sts := .cons (.ret (.andv (.cmp .isin (.var 4) (.var 5)) (.blt .all (.cons (.comp (.name 7) [7] (.seq (.bin .add (.var 5) (.var 6))) (.yes) (.orv (.cmp .eq (.var 7) (.var 4)) (.cmp .isin (.var 7) (.var 1)))) .nil)))) .nil
def B_is_step_t3 : DL.Sts := .cons (.set (.pair (.name 5) (.name 6)) (.sub (.op (.prp 4 0) (.cons (.var 0) .nil)) (.var 3))) B_is_step_t4
def B_is_step_t2 : DL.Sts := .cons (.ifs (.or (.not (.ex (.cmp2 .le .lt (.cst (.int 0)) (.var 3) (.blt .len (.cons (.op (.prp 4 0) (.cons (.var 0) .nil)) .nil))))) (.ex (.cmp .isin (.var 4) (.var 1)))) B_is_step_b2 .nil) B_is_step_t3
def B_is_step_t1 : DL.Sts := .cons (.set (.pair (.name 3) (.name 4)) (.var 2)) B_is_step_t2
def B_is_step : DL.Sts := .cons (.ifs (.or (.not (.ex (.isi (.var 2) .tuple))) (.or (.ex (.cmp .ne (.blt .len (.cons (.var 2) .nil)) (.cst (.int 2)))) (.not (.ex (.call 8 (.cons (.sub (.var 2) (.cst (.int 0))) .nil)))))) B_is_step_b1 .nil) B_is_step_t1
-- B_is_step: N ['shape', 'standing', 'value', 'number', 'name', 'sure', 'perhaps', 'other']; calls [('is_integer', ())]; mts ['0|Shape|rows']; exs []
def B_valid_from_b2 : DL.Sts := .cons (.ret (.cst (.bl false))) .nil
def B_valid_from_b1_t1 : DL.Sts := .cons (.exp (.met .append (.var 3) (.cons (.sub (.var 4) (.cst (.int 1))) .nil))) .nil
def B_valid_from_b1 : DL.Sts := .cons (.ifs (.not (.ex (.call 9 (.cons (.var 0) (.cons (.var 3) (.cons (.var 4) .nil)))))) B_valid_from_b2 .nil) B_valid_from_b1_t1
def B_valid_from_t2 : DL.Sts := .cons (.ret (.cst (.bl true))) .nil
def B_valid_from_t1 : DL.Sts := .cons (.fr (.name 4) (.seq (.var 2)) B_valid_from_b1) B_valid_from_t2
def B_valid_from : DL.Sts := .cons (.set (.name 3) (.own (.blt .list (.cons (.var 1) .nil)))) B_valid_from_t1
-- B_valid_from: N ['shape', 'standing', 'steps', 'found', 'step']; calls [('is_step', ())]; mts []; exs []
def B_check_steps_t1 : DL.Sts := .cons (.ret (.call 11 (.cons (.var 0) (.cons (.var 1) (.cons (.var 2) .nil))))) .nil
def B_check_steps : DL.Sts := .cons (.exp (.call 10 (.cons (.var 0) (.cons (.var 1) .nil)))) B_check_steps_t1
-- B_check_steps: N ['shape', 'readings', 'steps']; calls [('check_readings', ()), ('valid_from', ())]; mts []; exs []
def B_next_step_b3 : DL.Sts := .cons (.ret (.tup (.one (.var 2) (.one (.var 3) .nil)))) .nil
def B_next_step_b2 : DL.Sts := .cons (.ifs (.ex (.call 9 (.cons (.var 0) (.cons (.var 1) (.cons (.tup (.one (.var 2) (.one (.var 3) .nil))) .nil))))) B_next_step_b3 .nil) .nil
def B_next_step_b1 : DL.Sts := .cons (.fr (.name 3) (.seq (.var 4)) B_next_step_b2) .nil
def B_next_step_t1 : DL.Sts := .cons (.ret (.cst .non)) .nil
def B_next_step : DL.Sts := .cons (.fr (.pair (.name 2) (.pair (.name 4) (.name 5))) (.enum (.op (.prp 4 0) (.cons (.var 0) .nil))) B_next_step_b1) B_next_step_t1
-- B_next_step: N ['shape', 'standing', 'number', 'name', 'sure', 'perhaps']; calls [('is_step', ())]; mts ['0|Shape|rows']; exs []
def B_steps_from_b1_t1 : DL.Sts := .cons (.exp (.met .append (.var 3) (.cons (.sub (.var 4) (.cst (.int 1))) .nil))) .nil
def B_steps_from_b1 : DL.Sts := .cons (.exp (.met .append (.var 2) (.cons (.var 4) .nil))) B_steps_from_b1_t1
def B_steps_from_t4 : DL.Sts := .cons (.ret (.var 2)) .nil
def B_steps_from_t3 : DL.Sts := .cons (.whw 4 (.call 12 (.cons (.var 0) (.cons (.var 3) .nil))) B_steps_from_b1) B_steps_from_t4
def B_steps_from_t2 : DL.Sts := .cons (.set (.name 3) (.own (.blt .list (.cons (.var 1) .nil)))) B_steps_from_t3
def B_steps_from_t1 : DL.Sts := .cons (.set (.name 2) (.own (.lst .nil))) B_steps_from_t2
def B_steps_from : DL.Sts := .cons (.exp (.call 10 (.cons (.var 0) (.cons (.var 1) .nil)))) B_steps_from_t1
-- B_steps_from: N ['shape', 'readings', 'found', 'standing', 'step']; calls [('check_readings', ()), ('next_step', ())]; mts []; exs []
def B_reached_t1 : DL.Sts := .cons (.ret (.blt .tuple (.cons (.op .srt (.cons (.lst (.star (.var 1) (.star (.comp (.name 3) [3] (.seq (.var 2)) (.yes) (.sub (.var 3) (.cst (.int 1)))) .nil))) .nil)) .nil))) .nil
def B_reached : DL.Sts := .cons (.set (.name 2) (.call 13 (.cons (.var 0) (.cons (.var 1) .nil)))) B_reached_t1
-- B_reached: N ['shape', 'readings', 'steps', 'step']; calls [('steps_from', ())]; mts []; exs []
def B_steps_to_b1 : DL.Sts := .cons (.ret (.own (.lst .nil))) .nil
def B_steps_to_b2 : DL.Sts := .cons (.rse 12 (.var 2)) .nil
def B_steps_to_b4 : DL.Sts := .cons (.set (.name 3) (.var 5)) .nil
def B_steps_to_b3_t1 : DL.Sts := .cons (.ifs (.ex (.call 11 (.cons (.var 0) (.cons (.var 1) (.cons (.var 5) .nil))))) B_steps_to_b4 .nil) .nil
def B_steps_to_b3 : DL.Sts := .cons (.set (.name 5) (.own (.bin .add (.slc (.var 3) .none (.some (.var 4))) (.slc (.var 3) (.some (.bin .add (.var 4) (.cst (.int 1)))) .none)))) B_steps_to_b3_t1
def B_steps_to_t7 : DL.Sts := .cons (.ret (.var 3)) .nil
def B_steps_to_t6 : DL.Sts := .cons (.fr (.name 4) (.range3 (.bin .sub (.blt .len (.cons (.var 3) .nil)) (.cst (.int 2))) (.neg (.cst (.int 1))) (-1)) B_steps_to_b3) B_steps_to_t7
def B_steps_to_t5 : DL.Sts := .cons (.set (.name 3) (.own (.slc (.var 3) .none (.some (.bin .add (.met .index (.comp (.name 6) [6] (.seq (.var 3)) (.yes) (.sub (.var 6) (.cst (.int 1)))) (.cons (.var 2) .nil)) (.cst (.int 1))))))) B_steps_to_t6
def B_steps_to_t4 : DL.Sts := .cons (.ifs (.ex (.cmp .notin (.var 2) (.comp (.name 6) [6] (.seq (.var 3)) (.yes) (.sub (.var 6) (.cst (.int 1)))))) B_steps_to_b2 .nil) B_steps_to_t5
def B_steps_to_t3 : DL.Sts := .cons (.set (.name 3) (.call 13 (.cons (.var 0) (.cons (.var 1) .nil)))) B_steps_to_t4
def B_steps_to_t2 : DL.Sts := .cons (.ifs (.ex (.cmp .isin (.var 2) (.var 1))) B_steps_to_b1 .nil) B_steps_to_t3
def B_steps_to_t1 : DL.Sts := .cons (.exp (.call 14 (.cons (.var 0) (.cons (.var 2) .nil)))) B_steps_to_t2
def B_steps_to : DL.Sts := .cons (.exp (.call 10 (.cons (.var 0) (.cons (.var 1) .nil)))) B_steps_to_t1
-- B_steps_to: N ['shape', 'readings', 'name', 'found', 'index', 'fewer', 'step']; calls [('check_readings', ()), ('check_name', ()), ('steps_from', ()), ('valid_from', ())]; mts []; exs [12]
def B_always_t2 : DL.Sts := .cons (.ret (.cmp .isin (.var 2) (.call 15 (.cons (.var 0) (.cons (.var 1) .nil))))) .nil
def B_always_t1 : DL.Sts := .cons (.exp (.call 14 (.cons (.var 0) (.cons (.var 2) .nil)))) B_always_t2
def B_always : DL.Sts := .cons (.exp (.call 10 (.cons (.var 0) (.cons (.var 1) .nil)))) B_always_t1
-- B_always: N ['shape', 'readings', 'name']; calls [('check_readings', ()), ('check_name', ()), ('reached', ())]; mts []; exs []
def B_law_start : DL.Sts := .cons (.ret (.own (.lst (.one (.own (.comp (.name 1) [1] (.seq (.var 0)) (.yes) (.blt .int (.cons (.var 1) .nil)))) (.one (.cst (.int 0)) (.one (.cst (.int 0)) .nil)))))) .nil
-- B_law_start: N ['_law_script', '_law_cell']; calls []; mts []; exs []
def B_law_take_b1 : DL.Sts := .cons (.set (.name 4) (.sub (.var 2) (.var 3))) .nil
def B_law_take_b2_t1 : DL.Sts := .cons (.ret (.bin .mod (.blt .abs (.cons (.var 4) .nil)) (.var 1))) .nil
def B_law_take_b2 : DL.Sts := .cons (.sub (.var 2) (.var 3) (.bin .fdiv (.blt .abs (.cons (.var 4) .nil)) (.var 1))) B_law_take_b2_t1
def B_law_take_t9 : DL.Sts := .cons (.ret (.bin .mod (.bin .fdiv (.var 5) (.cst (.int 16))) (.var 1))) .nil
def B_law_take_t8 : DL.Sts := .cons (.set (.name 5) (.bin .mod (.bin .pow (.blt .int (.cons (.bin .add (.bin .add (.bin .mul (.var 5) (.cst (.int 16807))) (.bin .mul (.sub (.var 0) (.cst (.int 2))) (.cst (.int 40692)))) (.cst (.int 7))) .nil)) (.cst (.int 5))) (.cst (.int 2147483629)))) B_law_take_t9
def B_law_take_t7 : DL.Sts := .cons (.set (.name 5) (.bin .mod (.bin .pow (.blt .int (.cons (.bin .add (.bin .add (.bin .mul (.bin .mod (.blt .int (.cons (.var 4) .nil)) (.cst (.int 2147483647))) (.cst (.int 48271))) (.bin .mul (.sub (.var 0) (.cst (.int 2))) (.cst (.int 69621)))) (.cst (.int 11))) .nil)) (.cst (.int 5))) (.cst (.int 2147483647)))) B_law_take_t8
def B_law_take_t6 : DL.Sts := .cons (.sub (.var 0) (.cst (.int 1)) (.bin .add (.sub (.var 0) (.cst (.int 1))) (.cst (.int 1)))) B_law_take_t7
def B_law_take_t5 : DL.Sts := .cons (.ifs (.ex (.cmp .ge (.blt .abs (.cons (.var 4) .nil)) (.bin .pow (.cst (.int 10)) (.cst (.int 18))))) B_law_take_b2 .nil) B_law_take_t6
def B_law_take_t4 : DL.Sts := .cons (.ifs (.ex (.var 2)) B_law_take_b1 .nil) B_law_take_t5
def B_law_take_t3 : DL.Sts := .cons (.set (.name 4) (.cst (.int 0))) B_law_take_t4
def B_law_take_t2 : DL.Sts := .cons (.set (.name 3) (.bin .mod (.blt .int (.cons (.sub (.var 0) (.cst (.int 1))) .nil)) (.blt .max2 (.cons (.cst (.int 1)) (.cons (.blt .len (.cons (.var 2) .nil)) .nil))))) B_law_take_t3
def B_law_take_t1 : DL.Sts := .cons (.sub (.var 0) (.cst (.int 2)) (.bin .add (.sub (.var 0) (.cst (.int 2))) (.cst (.int 1)))) B_law_take_t2
def B_law_take : DL.Sts := .cons (.set (.name 2) (.sub (.var 0) (.cst (.int 0)))) B_law_take_t1
-- B_law_take: N ['_law_state', '_law_limit', '_law_cells', '_law_at', '_law_cell', '_law_number']; calls []; mts []; exs []
def B_law_shuffled_b1 : DL.Sts := .cons (.exp (.met .append (.var 3) (.cons (.met .pop (.var 2) (.cons (.call 16 (.cons (.var 0) (.cons (.blt .len (.cons (.var 2) .nil)) .nil))) .nil)) .nil))) .nil
def B_law_shuffled_t3 : DL.Sts := .cons (.ret (.var 3)) .nil
def B_law_shuffled_t2 : DL.Sts := .cons (.fr (.name 4) (.range1 (.blt .len (.cons (.var 1) .nil))) B_law_shuffled_b1) B_law_shuffled_t3
def B_law_shuffled_t1 : DL.Sts := .cons (.set (.name 3) (.own (.lst .nil))) B_law_shuffled_t2
def B_law_shuffled : DL.Sts := .cons (.set (.name 2) (.own (.blt .list (.cons (.var 1) .nil)))) B_law_shuffled_t1
-- B_law_shuffled: N ['_law_state', '_law_items', '_law_left', '_law_told_here', '_law_k']; calls [('_law_take', ())]; mts []; exs []
def B_law_unknowns_t4 : DL.Sts := .cons (.ret (.blt .tuple (.cons (.op .srt (.cons (.slc (.var 3) .none (.some (.bin .add (.cst (.int 1)) (.call 16 (.cons (.var 0) (.cons (.var 1) .nil)))))) .nil)) .nil))) .nil
def B_law_unknowns_t3 : DL.Sts := .cons (.set (.name 3) (.call 17 (.cons (.var 0) (.cons (.sub (.var 2) (.call 16 (.cons (.var 0) (.cons (.cst (.int 4)) .nil)))) .nil)))) B_law_unknowns_t4
def B_law_unknowns_t2 : DL.Sts := .cons (.exp (.met .append (.var 2) (.cons (.lst (.one (.cst (.str [102, 108, 111, 119, 49])) (.one (.cst (.str [102, 108, 111, 119, 50])) (.one (.cst (.str [102, 108, 111, 119, 51])) (.one (.cst (.str [102, 108, 111, 119, 52])) (.one (.cst (.str [102, 108, 111, 119, 97, 49])) (.one (.cst (.str [102, 108, 111, 119, 97, 50])) (.one (.cst (.str [102, 108, 111, 119])) (.one (.cst (.str [102, 108, 111])) .nil))))))))) .nil))) B_law_unknowns_t3
def B_law_unknowns_t1 : DL.Sts := .cons (.exp (.met .append (.var 2) (.cons (.lst (.one (.cst (.str [119])) (.one (.cst (.str [97, 108, 119, 97, 121, 115])) (.one (.cst (.str [110, 101, 118, 101, 114])) (.one (.cst (.str [114, 111, 119])) (.one (.cst (.str [122])) (.one (.cst (.str [114, 101, 97, 100])) (.one (.cst (.str [100, 114, 111, 112])) (.one (.cst (.str [116])) .nil))))))))) .nil))) B_law_unknowns_t2
def B_law_unknowns : DL.Sts := .cons (.set (.name 2) (.own (.lst (.one (.lst (.one (.cst (.str [97])) (.one (.cst (.str [98])) (.one (.cst (.str [99])) (.one (.cst (.str [100])) (.one (.cst (.str [101])) (.one (.cst (.str [102])) (.one (.cst (.str [103])) (.one (.cst (.str [104])) .nil))))))))) (.one (.lst (.one (.cst (.str [120])) (.one (.cst (.str [120, 121])) (.one (.cst (.str [121])) (.one (.cst (.str [120, 49])) (.one (.cst (.str [120, 49, 48])) (.one (.cst (.str [121, 120])) (.one (.cst (.str [114, 48])) (.one (.cst (.str [114, 49])) .nil))))))))) .nil))))) B_law_unknowns_t1
-- B_law_unknowns: N ['_law_state', '_law_most', '_law_lists', '_law_words']; calls [('_law_shuffled', ()), ('_law_take', ())]; mts []; exs []
def B_law_part : DL.Sts := .cons (.ret (.blt .tuple (.cons (.comp (.name 3) [3] (.seq (.var 1)) (.ex (.cmp .eq (.call 16 (.cons (.var 0) (.cons (.var 2) .nil))) (.cst (.int 0)))) (.var 3)) .nil))) .nil
-- B_law_part: N ['_law_state', '_law_names', '_law_chance', '_law_name1']; calls [('_law_take', ())]; mts []; exs []
def B_law_row_b1 : DL.Sts := .cons (.ret (.tup (.one (.var 3) (.one (.tup .nil) .nil)))) .nil
def B_law_row_t4 : DL.Sts := .cons (.ret (.tup (.one (.var 3) (.one (.call 18 (.cons (.var 0) (.cons (.var 4) (.cons (.sub (.lst (.one (.cst (.int 2)) (.one (.cst (.int 4)) .nil))) (.call 16 (.cons (.var 0) (.cons (.cst (.int 2)) .nil)))) .nil)))) .nil)))) .nil
def B_law_row_t3 : DL.Sts := .cons (.ifs (.ex (.cmp .eq (.call 16 (.cons (.var 0) (.cons (.cst (.int 2)) .nil))) (.cst (.int 0)))) B_law_row_b1 .nil) B_law_row_t4
def B_law_row_t2 : DL.Sts := .cons (.set (.name 4) (.comp (.name 5) [5] (.seq (.var 1)) (.ex (.cmp .notin (.var 5) (.var 3))) (.var 5))) B_law_row_t3
def B_law_row_t1 : DL.Sts := .cons (.set (.name 3) (.call 18 (.cons (.var 0) (.cons (.var 1) (.cons (.var 2) .nil))))) B_law_row_t2
def B_law_row : DL.Sts := .cons (.set (.name 2) (.sub (.lst (.one (.cst (.int 2)) (.one (.cst (.int 3)) (.one (.cst (.int 4)) .nil)))) (.call 16 (.cons (.var 0) (.cons (.cst (.int 3)) .nil))))) B_law_row_t1
-- B_law_row: N ['_law_state', '_law_names', '_law_chance', '_law_sure', '_law_left', '_law_name1']; calls [('_law_take', ()), ('_law_part', ())]; mts []; exs []
def B_law_model : DL.Sts := .cons (.ret (.tup (.one (.var 1) (.one (.comp (.name 3) [3] (.range1 (.call 16 (.cons (.var 0) (.cons (.bin .add (.var 2) (.cst (.int 1))) .nil)))) (.yes) (.call 19 (.cons (.var 0) (.cons (.var 1) .nil)))) .nil)))) .nil
-- B_law_model: N ['_law_state', '_law_names', '_law_most', '_law_k']; calls [('_law_take', ()), ('_law_row', ())]; mts []; exs []
def B_law_shape : DL.Sts := .cons (.ret (.frz (.op (.mk 5) (.cons (.call 17 (.cons (.var 0) (.cons (.blt .list (.cons (.sub (.var 1) (.cst (.int 0))) .nil)) .nil))) (.cons (.blt .list (.cons (.sub (.var 1) (.cst (.int 1))) .nil)) .nil))))) .nil
-- B_law_shape: N ['_law_state', '_law_model_here']; calls [('_law_shuffled', ())]; mts ['2|Shape|Shape']; exs []
def B_law_sets_b1 : DL.Sts := .cons (.set (.name 1) (.bin .add (.var 1) (.comp (.name 4) [4] (.seq (.var 1)) (.yes) (.bin .add (.var 4) (.tup (.one (.var 2) .nil)))))) .nil
def B_law_sets_t2 : DL.Sts := .cons (.ret (.comp (.pair (.name 3) (.name 4)) [3, 4] (.seq (.op .srt (.cons (.comp (.name 4) [4] (.seq (.var 1)) (.yes) (.tup (.one (.blt .len (.cons (.var 4) .nil)) (.one (.var 4) .nil)))) .nil))) (.yes) (.var 4))) .nil
def B_law_sets_t1 : DL.Sts := .cons (.fr (.name 2) (.seq (.var 0)) B_law_sets_b1) B_law_sets_t2
def B_law_sets : DL.Sts := .cons (.set (.name 1) (.lst (.one (.tup .nil) .nil))) B_law_sets_t1
-- B_law_sets: N ['_law_names', '_law_rows', '_law_name1', '_law_size', '_law_row_here']; calls []; mts []; exs []
def B_law_reached_b3 : DL.Sts := .cons (.exp (.met .append (.var 2) (.cons (.sub (.var 6) (.cst (.int 0))) .nil))) .nil
def B_law_reached_b2_t1 : DL.Sts := .cons (.ifs (.and (.ex (.cmp .eq (.blt .len (.cons (.var 6) .nil)) (.cst (.int 1)))) (.ex (.cmp .isin (.sub (.var 6) (.cst (.int 0))) (.var 4)))) B_law_reached_b3 .nil) .nil
def B_law_reached_b2 : DL.Sts := .cons (.set (.name 6) (.comp (.name 7) [7] (.seq (.bin .add (.var 4) (.var 5))) (.ex (.cmp .notin (.var 7) (.var 2))) (.var 7))) B_law_reached_b2_t1
def B_law_reached_b1 : DL.Sts := .cons (.fr (.pair (.name 4) (.name 5)) (.seq (.sub (.var 0) (.cst (.int 1)))) B_law_reached_b2) .nil
def B_law_reached_t2 : DL.Sts := .cons (.ret (.blt .tuple (.cons (.op .srt (.cons (.var 2) .nil)) .nil))) .nil
def B_law_reached_t1 : DL.Sts := .cons (.fr (.name 3) (.range1 (.blt .len (.cons (.sub (.var 0) (.cst (.int 0))) .nil))) B_law_reached_b1) B_law_reached_t2
def B_law_reached : DL.Sts := .cons (.set (.name 2) (.own (.blt .list (.cons (.var 1) .nil)))) B_law_reached_t1
-- B_law_reached: N ['_law_model_here', '_law_known1', '_law_standing', '_law_turn', '_law_sure', '_law_perhaps', '_law_open1', '_law_name1']; calls []; mts []; exs []
def B_law_odd_set_t4 : DL.Sts := .cons (.ret (.sub (.var 3) (.call 16 (.cons (.var 0) (.cons (.blt .len (.cons (.var 3) .nil)) .nil))))) .nil
def B_law_odd_set_t3 : DL.Sts := .cons (.set (.name 3) (.comp (.name 4) [4] (.seq (.var 3)) (.or (.not (.ex (.isi (.var 4) .tuple))) (.ex (.cmp .notin (.var 4) (.call 20 (.cons (.var 1) .nil))))) (.var 4))) B_law_odd_set_t4
def B_law_odd_set_t2 : DL.Sts := .cons (.set (.name 3) (.bin .add (.var 3) (.lst (.one (.rev (.var 1)) (.one (.rev (.var 2)) (.one (.bin .add (.tup (.one (.cst (.str [97, 97, 48])) .nil)) (.var 2)) .nil)))))) B_law_odd_set_t3
def B_law_odd_set_t1 : DL.Sts := .cons (.set (.name 3) (.lst (.one (.blt .list (.cons (.var 2) .nil)) (.one (.bin .add (.rev (.var 2)) (.slc (.var 2) .none (.some (.cst (.int 1))))) (.one (.bin .add (.var 2) (.tup (.one (.cst (.str [122, 122, 57])) .nil))) (.one (.cst .non) (.one (.cst (.int 0)) (.one (.cst (.str [97])) (.one (.op .dnil .nil) (.one (.tup (.one (.cst .non) .nil)) (.one (.tup (.one (.lst .nil) .nil)) (.one (.tup (.one (.cst (.int 1)) .nil)) (.one (.lst (.one (.lst .nil) .nil)) (.one (.cst (.bl true)) .nil)))))))))))))) B_law_odd_set_t2
def B_law_odd_set : DL.Sts := .cons (.set (.name 2) (.call 18 (.cons (.var 0) (.cons (.var 1) (.cons (.cst (.int 2)) .nil))))) B_law_odd_set_t1
-- B_law_odd_set: N ['_law_state', '_law_names', '_law_part_here', '_law_odd', '_law_thing']; calls [('_law_part', ()), ('_law_sets', ()), ('_law_take', ())]; mts []; exs []
def B_law_steps_b3 : DL.Sts := .cons (.exp (.met .append (.var 5) (.cons (.tup (.one (.var 6) (.one (.sub (.var 7) (.cst (.int 0))) .nil))) .nil))) .nil
def B_law_steps_b2_t1 : DL.Sts := .cons (.ifs (.and (.ex (.cmp .eq (.blt .len (.cons (.var 7) .nil)) (.cst (.int 1)))) (.ex (.cmp .isin (.sub (.var 7) (.cst (.int 0))) (.sub (.sub (.sub (.var 0) (.cst (.int 1))) (.var 6)) (.cst (.int 0)))))) B_law_steps_b3 .nil) .nil
def B_law_steps_b2 : DL.Sts := .cons (.set (.name 7) (.comp (.name 8) [8] (.seq (.bin .add (.sub (.sub (.sub (.var 0) (.cst (.int 1))) (.var 6)) (.cst (.int 0))) (.sub (.sub (.sub (.var 0) (.cst (.int 1))) (.var 6)) (.cst (.int 1))))) (.ex (.cmp .notin (.var 8) (.var 2))) (.var 8))) B_law_steps_b2_t1
def B_law_steps_b4_t1 : DL.Sts := .cons (.exp (.met .append (.var 2) (.cons (.sub (.sub (.var 5) (.cst (.int 0))) (.cst (.int 1))) .nil))) .nil
def B_law_steps_b4 : DL.Sts := .cons (.exp (.met .append (.var 3) (.cons (.sub (.var 5) (.cst (.int 0))) .nil))) B_law_steps_b4_t1
def B_law_steps_b1_t2 : DL.Sts := .cons (.ifs (.ex (.cmp .ne (.var 5) (.lst .nil))) B_law_steps_b4 .nil) .nil
def B_law_steps_b1_t1 : DL.Sts := .cons (.fr (.name 6) (.range1 (.blt .len (.cons (.sub (.var 0) (.cst (.int 1))) .nil))) B_law_steps_b2) B_law_steps_b1_t2
def B_law_steps_b1 : DL.Sts := .cons (.set (.name 5) (.own (.lst .nil))) B_law_steps_b1_t1
def B_law_steps_t3 : DL.Sts := .cons (.ret (.frz (.var 3))) .nil
def B_law_steps_t2 : DL.Sts := .cons (.fr (.name 4) (.range1 (.blt .len (.cons (.sub (.var 0) (.cst (.int 0))) .nil))) B_law_steps_b1) B_law_steps_t3
def B_law_steps_t1 : DL.Sts := .cons (.set (.name 3) (.own (.lst .nil))) B_law_steps_t2
def B_law_steps : DL.Sts := .cons (.set (.name 2) (.own (.blt .list (.cons (.var 1) .nil)))) B_law_steps_t1
-- B_law_steps: N ['_law_model_here', '_law_known1', '_law_standing', '_law_told_here', '_law_turn', '_law_found', '_law_k', '_law_open1', '_law_name1']; calls []; mts []; exs []
def B_law_valid_b2 : DL.Sts := .cons (.ret (.cst (.bl false))) .nil
def B_law_valid_b3 : DL.Sts := .cons (.ret (.cst (.bl false))) .nil
def B_law_valid_b1_t3 : DL.Sts := .cons (.exp (.met .append (.var 3) (.cons (.var 5) .nil))) .nil
def B_law_valid_b1_t2 : DL.Sts := .cons (.ifs (.ex (.cmp .ne (.comp (.name 8) [8] (.seq (.bin .add (.var 6) (.var 7))) (.and (.ex (.cmp .ne (.var 8) (.var 5))) (.ex (.cmp .notin (.var 8) (.var 3)))) (.var 8)) (.lst .nil))) B_law_valid_b3 .nil) B_law_valid_b1_t3
def B_law_valid_b1_t1 : DL.Sts := .cons (.ifs (.or (.ex (.cmp .isin (.var 5) (.var 3))) (.ex (.cmp .notin (.var 5) (.var 6)))) B_law_valid_b2 .nil) B_law_valid_b1_t2
def B_law_valid_b1 : DL.Sts := .cons (.set (.pair (.name 6) (.name 7)) (.sub (.sub (.var 0) (.cst (.int 1))) (.var 4))) B_law_valid_b1_t1
def B_law_valid_t2 : DL.Sts := .cons (.ret (.cst (.bl true))) .nil
def B_law_valid_t1 : DL.Sts := .cons (.fr (.pair (.name 4) (.name 5)) (.seq (.var 2)) B_law_valid_b1) B_law_valid_t2
def B_law_valid : DL.Sts := .cons (.set (.name 3) (.own (.blt .list (.cons (.var 1) .nil)))) B_law_valid_t1
-- B_law_valid: N ['_law_model_here', '_law_known1', '_law_steps_here', '_law_standing', '_law_k', '_law_name1', '_law_sure', '_law_perhaps', '_law_other']; calls []; mts []; exs []
def B_law_least_b1 : DL.Sts := .cons (.ret (.cst (.bl false))) .nil
def B_law_least_b3 : DL.Sts := .cons (.ret (.cst (.bl false))) .nil
def B_law_least_b2 : DL.Sts := .cons (.ifs (.ex (.call 21 (.cons (.var 0) (.cons (.var 1) (.cons (.bin .add (.slc (.var 2) .none (.some (.var 4))) (.slc (.var 2) (.some (.bin .add (.var 4) (.cst (.int 1)))) .none)) .nil))))) B_law_least_b3 .nil) .nil
def B_law_least_t2 : DL.Sts := .cons (.ret (.cst (.bl true))) .nil
def B_law_least_t1 : DL.Sts := .cons (.fr (.name 4) (.range1 (.bin .sub (.blt .len (.cons (.var 2) .nil)) (.cst (.int 1)))) B_law_least_b2) B_law_least_t2
def B_law_least : DL.Sts := .cons (.ifs (.or (.ex (.cmp .eq (.var 2) (.lst .nil))) (.or (.ex (.cmp .ne (.sub (.sub (.var 2) (.neg (.cst (.int 1)))) (.cst (.int 1))) (.var 3))) (.not (.ex (.call 21 (.cons (.var 0) (.cons (.var 1) (.cons (.var 2) .nil)))))))) B_law_least_b1 .nil) B_law_least_t1
-- B_law_least: N ['_law_model_here', '_law_known1', '_law_steps_here', '_law_name1', '_law_k']; calls [('_law_valid', ())]; mts []; exs []
def B_law_told_b2 : DL.Sts := .cons (.ret (.tup (.one (.cst (.str [116, 111, 108, 100])) (.one (.call 13 (.cons (.var 1) (.cons (.var 2) .nil))) .nil)))) .nil
def B_law_told_b3 : DL.Sts := .cons (.ret (.tup (.one (.cst (.str [116, 111, 108, 100])) (.one (.call 15 (.cons (.var 1) (.cons (.var 2) .nil))) .nil)))) .nil
def B_law_told_b4 : DL.Sts := .cons (.ret (.tup (.one (.cst (.str [116, 111, 108, 100])) (.one (.call 22 (.cons (.var 1) (.cons (.var 2) (.cons (.var 3) .nil)))) .nil)))) .nil
def B_law_told_b5 : DL.Sts := .cons (.ret (.tup (.one (.cst (.str [116, 111, 108, 100])) (.one (.call 23 (.cons (.var 1) (.cons (.var 2) (.cons (.var 3) .nil)))) .nil)))) .nil
def B_law_told_b1_t4 : DL.Sts := .cons (.ret (.tup (.one (.cst (.str [116, 111, 108, 100])) (.one (.call 24 (.cons (.bin .sub (.var 0) (.cst (.int 4))) (.cons (.var 1) (.cons (.var 2) (.cons (.var 3) .nil))))) .nil)))) .nil
def B_law_told_b1_t3 : DL.Sts := .cons (.ifs (.ex (.cmp .eq (.var 0) (.cst (.int 3)))) B_law_told_b5 .nil) B_law_told_b1_t4
def B_law_told_b1_t2 : DL.Sts := .cons (.ifs (.ex (.cmp .eq (.var 0) (.cst (.int 2)))) B_law_told_b4 .nil) B_law_told_b1_t3
def B_law_told_b1_t1 : DL.Sts := .cons (.ifs (.ex (.cmp .eq (.var 0) (.cst (.int 1)))) B_law_told_b3 .nil) B_law_told_b1_t2
def B_law_told_b1 : DL.Sts := .cons (.ifs (.ex (.cmp .eq (.var 0) (.cst (.int 0)))) B_law_told_b2 .nil) B_law_told_b1_t1
def B_law_told : DL.Sts := .cons (.tryR B_law_told_b1 [⟨4, 4, true, [some (.str [115, 101, 116]), none]⟩, ⟨2, 4, true, [some (.str [117, 110, 107, 110, 111, 119, 110]), none]⟩, ⟨12, 4, true, [some (.str [102, 97, 114]), none]⟩] [0, 1, 2, 3, 4, 5, 6, 12]) .nil
-- B_law_told: N ['_law_way', '_law_shape1', '_law_known1', '_law_name1', 'e']; calls [('steps_from', ()), ('reached', ()), ('always', ()), ('steps_to', ()), ('_law_named', ())]; mts []; exs [2, 4, 12]
def B_law_named_b1 : DL.Sts := .cons (.ret (.call 25 (.cons (.var 2) (.cons (.var 1) .nil)))) .nil
def B_law_named_b2 : DL.Sts := .cons (.ret (.call 26 (.cons (.var 2) (.cons (.var 1) .nil)))) .nil
def B_law_named_b3 : DL.Sts := .cons (.ret (.call 27 (.cons (.var 3) (.cons (.var 2) (.cons (.var 1) .nil))))) .nil
def B_law_named_t3 : DL.Sts := .cons (.ret (.call 28 (.cons (.var 3) (.cons (.var 2) (.cons (.var 1) .nil))))) .nil
def B_law_named_t2 : DL.Sts := .cons (.ifs (.ex (.cmp .eq (.var 0) (.cst (.int 2)))) B_law_named_b3 .nil) B_law_named_t3
def B_law_named_t1 : DL.Sts := .cons (.ifs (.ex (.cmp .eq (.var 0) (.cst (.int 1)))) B_law_named_b2 .nil) B_law_named_t2
def B_law_named : DL.Sts := .cons (.ifs (.ex (.cmp .eq (.var 0) (.cst (.int 0)))) B_law_named_b1 .nil) B_law_named_t1
-- B_law_named: N ['_law_way', '_law_desk', '_law_known', '_law_label']; calls [('steps_from', ('readings', 'shape')), ('reached', ('readings', 'shape')), ('always', ('name', 'readings', 'shape')), ('steps_to', ('name', 'readings', 'shape'))]; mts []; exs []
def B_law_due_b1 : DL.Sts := .cons (.ret (.tup (.one (.cst (.str [115, 101, 116])) (.one (.var 2) .nil)))) .nil
def B_law_due_b2 : DL.Sts := .cons (.ret (.tup (.one (.cst (.str [117, 110, 107, 110, 111, 119, 110])) (.one (.var 3) .nil)))) .nil
def B_law_due_b3 : DL.Sts := .cons (.ret (.tup (.one (.cst (.str [116, 111, 108, 100])) (.one (.call 30 (.cons (.var 1) (.cons (.var 2) .nil))) .nil)))) .nil
def B_law_due_b4 : DL.Sts := .cons (.ret (.tup (.one (.cst (.str [116, 111, 108, 100])) (.one (.var 4) .nil)))) .nil
def B_law_due_b5 : DL.Sts := .cons (.ret (.tup (.one (.cst (.str [116, 111, 108, 100])) (.one (.cmp .isin (.var 3) (.var 4)) .nil)))) .nil
def B_law_due_b6 : DL.Sts := .cons (.ret (.tup (.one (.cst (.str [116, 111, 108, 100])) (.one (.lst .nil) .nil)))) .nil
def B_law_due_b7 : DL.Sts := .cons (.ret (.tup (.one (.cst (.str [102, 97, 114])) (.one (.var 3) .nil)))) .nil
def B_law_due_t8 : DL.Sts := .cons (.ret (.tup (.one (.cst (.str [108, 101, 97, 115, 116])) (.one (.var 3) .nil)))) .nil
def B_law_due_t7 : DL.Sts := .cons (.ifs (.ex (.cmp .notin (.var 3) (.var 4))) B_law_due_b7 .nil) B_law_due_t8
def B_law_due_t6 : DL.Sts := .cons (.ifs (.ex (.cmp .isin (.var 3) (.var 2))) B_law_due_b6 .nil) B_law_due_t7
def B_law_due_t5 : DL.Sts := .cons (.ifs (.ex (.cmp .eq (.var 0) (.cst (.int 2)))) B_law_due_b5 .nil) B_law_due_t6
def B_law_due_t4 : DL.Sts := .cons (.ifs (.ex (.cmp .eq (.var 0) (.cst (.int 1)))) B_law_due_b4 .nil) B_law_due_t5
def B_law_due_t3 : DL.Sts := .cons (.ifs (.ex (.cmp .eq (.var 0) (.cst (.int 0)))) B_law_due_b3 .nil) B_law_due_t4
def B_law_due_t2 : DL.Sts := .cons (.set (.name 4) (.call 29 (.cons (.var 1) (.cons (.var 2) .nil)))) B_law_due_t3
def B_law_due_t1 : DL.Sts := .cons (.ifs (.and (.ex (.cmp .gt (.var 0) (.cst (.int 1)))) (.ex (.cmp .notin (.var 3) (.sub (.var 1) (.cst (.int 0)))))) B_law_due_b2 .nil) B_law_due_t2
def B_law_due : DL.Sts := .cons (.ifs (.or (.not (.ex (.isi (.var 2) .tuple))) (.ex (.cmp .notin (.var 2) (.call 20 (.cons (.sub (.var 1) (.cst (.int 0))) .nil))))) B_law_due_b1 .nil) B_law_due_t1
-- B_law_due: N ['_law_way', '_law_model_here', '_law_known1', '_law_name1', '_law_standing']; calls [('_law_sets', ()), ('_law_reached', ()), ('_law_steps', ())]; mts []; exs []
def B_law_right_b3 : DL.Sts := .cons (.ret (.cst (.bl false))) .nil
def B_law_right_b4 : DL.Sts := .cons (.ret (.cst (.bl false))) .nil
def B_law_right_b2_t1 : DL.Sts := .cons (.ifs (.or (.not (.ex (.call 34 (.cons (.var 1) (.cons (.var 3) (.cons (.sub (.var 6) (.cst (.int 1))) (.cons (.var 4) .nil))))))) (.ex (.op .notT (.cons (.call 33 (.cons (.var 2) (.cons (.var 3) (.cons (.sub (.var 6) (.cst (.int 1))) .nil)))) .nil)))) B_law_right_b4 .nil) .nil
def B_law_right_b2 : DL.Sts := .cons (.ifs (.or (.ex (.cmp .ne (.sub (.var 6) (.cst (.int 0))) (.cst (.str [116, 111, 108, 100])))) (.not (.ex (.isi (.sub (.var 6) (.cst (.int 1))) .list)))) B_law_right_b3 .nil) B_law_right_b2_t1
def B_law_right_b6 : DL.Sts := .cons (.ret (.cst (.bl false))) .nil
def B_law_right_b5 : DL.Sts := .cons (.ifs (.or (.ex (.cmp .neT (.var 6) (.var 7))) (.and (.ex (.cmp .eq (.bin .mod (.var 5) (.cst (.int 4))) (.cst (.int 2)))) (.and (.ex (.cmp .eq (.sub (.var 7) (.cst (.int 0))) (.cst (.str [116, 111, 108, 100])))) (.not (.ex (.isi (.sub (.var 6) (.cst (.int 1))) .bool)))))) B_law_right_b6 .nil) .nil
def B_law_right_b7 : DL.Sts := .cons (.exp (.met .append (.sub (.var 6) (.cst (.int 1))) (.cons (.tup (.one (.cst (.int 0)) (.one (.cst (.str [122, 122, 55])) .nil))) .nil))) .nil
def B_law_right_b1_t3 : DL.Sts := .cons (.ifs (.and (.ex (.isi (.sub (.var 6) (.cst (.int 1))) .list)) (.ex (.cmp .eq (.sub (.var 6) (.cst (.int 0))) (.cst (.str [116, 111, 108, 100]))))) B_law_right_b7 .nil) .nil
def B_law_right_b1_t2 : DL.Sts := .cons (.ifs (.ex (.cmp .eq (.sub (.var 7) (.cst (.int 0))) (.cst (.str [108, 101, 97, 115, 116])))) B_law_right_b2 B_law_right_b5) B_law_right_b1_t3
def B_law_right_b1_t1 : DL.Sts := .cons (.set (.name 7) (.call 32 (.cons (.bin .mod (.var 5) (.cst (.int 4))) (.cons (.var 1) (.cons (.var 3) (.cons (.var 4) .nil)))))) B_law_right_b1_t2
def B_law_right_b1 : DL.Sts := .cons (.set (.name 6) (.call 31 (.cons (.var 5) (.cons (.var 2) (.cons (.var 3) (.cons (.var 4) .nil)))))) B_law_right_b1_t1
def B_law_right_t1 : DL.Sts := .cons (.ret (.cst (.bl true))) .nil
def B_law_right : DL.Sts := .cons (.fr (.name 5) (.seq (.call 17 (.cons (.var 0) (.cons (.lst (.one (.cst (.int 0)) (.one (.cst (.int 1)) (.one (.cst (.int 2)) (.one (.cst (.int 3)) (.one (.cst (.int 4)) (.one (.cst (.int 5)) (.one (.cst (.int 6)) (.one (.cst (.int 7)) .nil))))))))) .nil)))) B_law_right_b1) B_law_right_t1
-- B_law_right: N ['_law_state', '_law_model_here', '_law_desk', '_law_known', '_law_label', '_law_way', '_law_told_here', '_law_due_here']; calls [('_law_shuffled', ()), ('_law_told', ()), ('_law_due', ()), ('check_steps', ()), ('_law_least', ())]; mts []; exs []
def B_law_b2 : DL.Sts := .cons (.set (.name 6) (.call 39 (.cons (.var 1) (.cons (.var 2) .nil)))) .nil
def B_law_b4 : DL.Sts := .cons (.ret (.cst (.bl false))) .nil
def B_law_b3 : DL.Sts := .cons (.ifs (.not (.ex (.call 40 (.cons (.var 1) (.cons (.sub (.var 3) (.var 8)) (.cons (.sub (.var 4) (.var 8)) (.cons (.var 6) (.cons (.var 7) .nil)))))))) B_law_b4 .nil) .nil
def B_law_b1_t3 : DL.Sts := .cons (.fr (.name 8) (.seq (.call 17 (.cons (.var 1) (.cons (.lst (.one (.cst (.int 0)) (.one (.cst (.int 1)) .nil))) .nil)))) B_law_b3) .nil
def B_law_b1_t2 : DL.Sts := .cons (.set (.name 7) (.sub (.bin .add (.bin .mul (.blt .list (.cons (.var 2) .nil)) (.cst (.int 3))) (.lst (.one (.cst (.str [122, 122, 57])) (.one (.cst (.str [])) .nil)))) (.call 16 (.cons (.var 1) (.cons (.bin .add (.bin .mul (.cst (.int 3)) (.blt .len (.cons (.var 2) .nil))) (.cst (.int 2))) .nil))))) B_law_b1_t3
def B_law_b1_t1 : DL.Sts := .cons (.ifs (.ex (.cmp .eq (.call 16 (.cons (.var 1) (.cons (.cst (.int 6)) .nil))) (.cst (.int 0)))) B_law_b2 .nil) B_law_b1_t2
def B_law_b1 : DL.Sts := .cons (.set (.name 6) (.call 18 (.cons (.var 1) (.cons (.var 2) (.cons (.sub (.lst (.one (.cst (.int 2)) (.one (.cst (.int 4)) (.one (.cst (.int 9)) .nil)))) (.call 16 (.cons (.var 1) (.cons (.cst (.int 3)) .nil)))) .nil))))) B_law_b1_t1
def B_law_t5 : DL.Sts := .cons (.ret (.cst (.bl true))) .nil
def B_law_t4 : DL.Sts := .cons (.fr (.name 5) (.range1 (.cst (.int 6))) B_law_b1) B_law_t5
def B_law_t3 : DL.Sts := .cons (.set (.name 4) (.comp (.name 9) [9] (.seq (.var 3)) (.yes) (.call 38 (.cons (.var 1) (.cons (.var 9) .nil))))) B_law_t4
def B_law_t2 : DL.Sts := .cons (.set (.name 3) (.lst (.one (.call 37 (.cons (.var 1) (.cons (.var 2) (.cons (.cst (.int 8)) .nil)))) (.one (.call 37 (.cons (.var 1) (.cons (.var 2) (.cons (.cst (.int 8)) .nil)))) .nil)))) B_law_t3
def B_law_t1 : DL.Sts := .cons (.set (.name 2) (.call 36 (.cons (.var 1) (.cons (.cst (.int 8)) .nil)))) B_law_t2
def B_law : DL.Sts := .cons (.set (.name 1) (.call 35 (.cons (.var 0) .nil))) B_law_t1
-- B_law: N ['_law_script', '_law_state', '_law_names', '_law_models', '_law_desks', '_law_turn', '_law_known', '_law_label', '_law_k', '_law_model_here']; calls [('_law_start', ()), ('_law_unknowns', ()), ('_law_model', ()), ('_law_shape', ()), ('_law_part', ()), ('_law_take', ()), ('_law_odd_set', ()), ('_law_shuffled', ()), ('_law_right', ())]; mts []; exs []
def B_is_index : DL.Sts := .cons (.ret (.andv (.call 8 (.cons (.var 0) .nil)) (.cmp2 .le .lt (.cst (.int 0)) (.var 0) (.var 1)))) .nil
-- B_is_index: N ['value', 'count']; calls [('is_integer', ())]; mts []; exs []
def B_set_rank : DL.Sts := .cons (.ret (.tup (.one (.blt .len (.cons (.var 0) .nil)) (.one (.var 0) .nil)))) .nil
-- B_set_rank: N ['names']; calls []; mts []; exs []
def B_all_sets_b1 : DL.Sts := .cons (.set (.name 1) (.bin .add (.var 1) (.comp (.name 3) [3] (.seq (.var 1)) (.yes) (.bin .add (.var 3) (.tup (.one (.var 2) .nil)))))) .nil
def B_all_sets_t2 : DL.Sts := .cons (.ret (.op (.srtK 41) (.cons (.var 1) .nil))) .nil
def B_all_sets_t1 : DL.Sts := .cons (.fr (.name 2) (.seq (.var 0)) B_all_sets_b1) B_all_sets_t2
def B_all_sets : DL.Sts := .cons (.set (.name 1) (.lst (.one (.tup .nil) .nil))) B_all_sets_t1
-- B_all_sets: N ['names', 'found', 'name', 'chosen']; calls [('set_rank', ())]; mts []; exs []
def B_Shape_occurs_v1_b1 : DL.Sts := .cons (.rse 7 (.var 1)) .nil
def B_Shape_occurs_v1_t2 : DL.Sts := .cons (.ret (.orv (.cmp .isin (.var 2) (.sub (.sub (.op (.att 1 0 [108, 105, 110, 101, 115]) (.cons (.var 0) .nil)) (.var 1)) (.cst (.int 0)))) (.cmp .isin (.var 2) (.sub (.sub (.op (.att 1 0 [108, 105, 110, 101, 115]) (.cons (.var 0) .nil)) (.var 1)) (.cst (.int 1)))))) .nil
def B_Shape_occurs_v1_t1 : DL.Sts := .cons (.exp (.mth 2 0 [99, 104, 101, 99, 107, 95, 117, 110, 107, 110, 111, 119, 110] (.var 0) (.cons (.var 2) .nil))) B_Shape_occurs_v1_t2
def B_Shape_occurs_v1 : DL.Sts := .cons (.ifs (.not (.ex (.call 42 (.cons (.var 1) (.cons (.blt .len (.cons (.op (.att 1 0 [108, 105, 110, 101, 115]) (.cons (.var 0) .nil)) .nil)) .nil))))) B_Shape_occurs_v1_b1 .nil) B_Shape_occurs_v1_t1
-- B_Shape_occurs_v1: N ['self', 'number', 'name']; calls [('is_index', ())]; mts ['3|Shape|lines', '1|Shape|check_unknown']; exs [7]
def B_Shape_turned_v1 : DL.Sts := .cons (.exp (.call 6 (.cons (.cst (.int 0)) .nil))) .nil
-- B_Shape_turned_v1: N ['self']; calls [('_wall', ())]; mts []; exs []
def B_Shape_without_v1 : DL.Sts := .cons (.exp (.call 6 (.cons (.cst (.int 1)) .nil))) .nil
-- B_Shape_without_v1: N ['self', 'wanted']; calls [('_wall', ())]; mts []; exs []
def B_Shape_with_row_v1 : DL.Sts := .cons (.exp (.call 6 (.cons (.cst (.int 2)) .nil))) .nil
-- B_Shape_with_row_v1: N ['self', 'sure', 'perhaps']; calls [('_wall', ())]; mts []; exs []
def B_Shape_without_row_v1 : DL.Sts := .cons (.exp (.call 6 (.cons (.cst (.int 3)) .nil))) .nil
-- B_Shape_without_row_v1: N ['self', 'number']; calls [('_wall', ())]; mts []; exs []
def B_parted : DL.Sts := .cons (.ret (.tup (.one (.comp (.name 2) [2] (.seq (.var 0)) (.ex (.cmp .isin (.var 2) (.var 1))) (.var 2)) (.one (.comp (.name 2) [2] (.seq (.var 0)) (.ex (.cmp .notin (.var 2) (.var 1))) (.var 2)) .nil)))) .nil
-- B_parted: N ['names', 'chosen', 'name']; calls []; mts []; exs []
def B_can_hide_b2 : DL.Sts := .cons (.ret (.cst (.bl false))) .nil
def B_can_hide_b1 : DL.Sts := .cons (.ifs (.and (.ex (.cmp .eq (.blt .len (.cons (.sub (.call 43 (.cons (.var 2) (.cons (.var 1) .nil))) (.cst (.int 0))) .nil)) (.cst (.int 1)))) (.ex (.cmp .eq (.sub (.call 43 (.cons (.var 3) (.cons (.var 1) .nil))) (.cst (.int 0))) (.lst .nil)))) B_can_hide_b2 .nil) .nil
def B_can_hide_t1 : DL.Sts := .cons (.ret (.cst (.bl true))) .nil
def B_can_hide : DL.Sts := .cons (.fr (.pair (.name 2) (.name 3)) (.seq (.op (.prp 4 0) (.cons (.var 0) .nil))) B_can_hide_b1) B_can_hide_t1
-- B_can_hide: N ['shape', 'chosen', 'sure', 'perhaps']; calls [('parted', ())]; mts ['0|Shape|rows']; exs []
def B_hidden_sets_t2 : DL.Sts := .cons (.ret (.own (.comp (.name 3) [3] (.seq (.slc (.call 44 (.cons (.var 2) .nil)) (.some (.cst (.int 1))) .none)) (.ex (.call 45 (.cons (.var 0) (.cons (.var 3) .nil)))) (.var 3)))) .nil
def B_hidden_sets_t1 : DL.Sts := .cons (.set (.name 2) (.blt .tuple (.cons (.comp (.name 4) [4] (.seq (.op (.prp 3 0) (.cons (.var 0) .nil))) (.ex (.cmp .notin (.var 4) (.var 1))) (.var 4)) .nil))) B_hidden_sets_t2
def B_hidden_sets : DL.Sts := .cons (.exp (.call 10 (.cons (.var 0) (.cons (.var 1) .nil)))) B_hidden_sets_t1
-- B_hidden_sets: N ['shape', 'readings', 'unread', 'chosen', 'name']; calls [('check_readings', ()), ('all_sets', ()), ('can_hide', ())]; mts ['0|Shape|unknowns']; exs []
def B_law_due_v1_b3 : DL.Sts := .cons (.set (.name 5) (.cst (.bl false))) .nil
def B_law_due_v1_b2_t1 : DL.Sts := .cons (.ifs (.and (.ex (.cmp .eq (.blt .len (.cons (.var 8) .nil)) (.cst (.int 1)))) (.ex (.cmp .isin (.sub (.var 8) (.cst (.int 0))) (.var 6)))) B_law_due_v1_b3 .nil) .nil
def B_law_due_v1_b2 : DL.Sts := .cons (.set (.name 8) (.comp (.name 9) [9] (.seq (.bin .add (.var 6) (.var 7))) (.ex (.cmp .isin (.var 9) (.var 4))) (.var 9))) B_law_due_v1_b2_t1
def B_law_due_v1_b4 : DL.Sts := .cons (.exp (.met .append (.var 3) (.cons (.var 4) .nil))) .nil
def B_law_due_v1_b1_t2 : DL.Sts := .cons (.ifs (.ex (.var 5)) B_law_due_v1_b4 .nil) .nil
def B_law_due_v1_b1_t1 : DL.Sts := .cons (.fr (.pair (.name 6) (.name 7)) (.seq (.sub (.var 0) (.cst (.int 1)))) B_law_due_v1_b2) B_law_due_v1_b1_t2
def B_law_due_v1_b1 : DL.Sts := .cons (.set (.name 5) (.cst (.bl true))) B_law_due_v1_b1_t1
def B_law_due_v1_t3 : DL.Sts := .cons (.ret (.frz (.var 3))) .nil
def B_law_due_v1_t2 : DL.Sts := .cons (.fr (.name 4) (.seq (.slc (.call 20 (.cons (.var 2) .nil)) (.some (.cst (.int 1))) .none)) B_law_due_v1_b1) B_law_due_v1_t3
def B_law_due_v1_t1 : DL.Sts := .cons (.set (.name 3) (.own (.lst .nil))) B_law_due_v1_t2
def B_law_due_v1 : DL.Sts := .cons (.set (.name 2) (.blt .tuple (.cons (.comp (.name 9) [9] (.seq (.sub (.var 0) (.cst (.int 0)))) (.ex (.cmp .notin (.var 9) (.var 1))) (.var 9)) .nil))) B_law_due_v1_t1
-- B_law_due_v1: N ['_law_model_here', '_law_known', '_law_unread', '_law_told_here', '_law_chosen', '_law_good', '_law_sure', '_law_perhaps', '_law_inside', '_law_name']; calls [('_law_sets', ())]; mts []; exs []
def B_law_told_v1_b2 : DL.Sts := .cons (.ret (.tup (.one (.cst (.str [116, 111, 108, 100])) (.one (.call 46 (.cons (.var 1) (.cons (.var 2) .nil))) .nil)))) .nil
def B_law_told_v1_b1_t1 : DL.Sts := .cons (.ret (.tup (.one (.cst (.str [116, 111, 108, 100])) (.one (.call 47 (.cons (.var 2) (.cons (.var 1) .nil))) .nil)))) .nil
def B_law_told_v1_b1 : DL.Sts := .cons (.ifs (.ex (.cmp .eq (.var 0) (.cst (.int 0)))) B_law_told_v1_b2 .nil) B_law_told_v1_b1_t1
def B_law_told_v1 : DL.Sts := .cons (.tryR B_law_told_v1_b1 [⟨4, 3, true, [some (.str [115, 101, 116]), none]⟩] [0, 1, 2, 3, 4, 5, 6, 7]) .nil
-- B_law_told_v1: N ['_law_way', '_law_desk', '_law_known', 'e']; calls [('hidden_sets', ()), ('hidden_sets', ('readings', 'shape'))]; mts []; exs [4]
def B_law_v1_b3 : DL.Sts := .cons (.ret (.cst (.bl false))) .nil
def B_law_v1_b4 : DL.Sts := .cons (.ret (.cst (.bl false))) .nil
def B_law_v1_b5 : DL.Sts := .cons (.ret (.cst (.bl false))) .nil
def B_law_v1_b2_t6 : DL.Sts := .cons (.ifs (.ex (.cmp .neT (.call 31 (.cons (.cst (.int 1)) (.cons (.sub (.var 4) (.var 7)) (.cons (.var 6) .nil)))) (.tup (.one (.cst (.str [116, 111, 108, 100])) (.one (.var 10) .nil))))) B_law_v1_b5 .nil) .nil
def B_law_v1_b2_t5 : DL.Sts := .cons (.exp (.met .append (.sub (.var 11) (.cst (.int 1))) (.cons (.tup (.one (.cst (.str [122, 122, 55])) .nil)) .nil))) B_law_v1_b2_t6
def B_law_v1_b2_t4 : DL.Sts := .cons (.ifs (.or (.ex (.cmp .ne (.blt .tuple (.cons (.var 12) .nil)) (.call 29 (.cons (.sub (.var 3) (.var 7)) (.cons (.var 6) .nil))))) (.ex (.cmp .ne (.call 15 (.cons (.sub (.var 4) (.var 7)) (.cons (.var 6) .nil))) (.blt .tuple (.cons (.var 12) .nil))))) B_law_v1_b4 .nil) B_law_v1_b2_t5
def B_law_v1_b2_t3 : DL.Sts := .cons (.set (.name 12) (.comp (.name 13) [13] (.seq (.var 2)) (.ex (.cmp .eq (.comp (.name 14) [14] (.seq (.var 10)) (.ex (.cmp .isin (.var 13) (.var 14))) (.var 14)) (.lst .nil))) (.var 13))) B_law_v1_b2_t4
def B_law_v1_b2_t2 : DL.Sts := .cons (.ifs (.or (.ex (.cmp .neT (.var 11) (.tup (.one (.cst (.str [116, 111, 108, 100])) (.one (.var 10) .nil))))) (.not (.ex (.isi (.sub (.var 11) (.cst (.int 1))) .list)))) B_law_v1_b3 .nil) B_law_v1_b2_t3
def B_law_v1_b2_t1 : DL.Sts := .cons (.set (.name 11) (.call 31 (.cons (.bin .mod (.var 5) (.cst (.int 2))) (.cons (.sub (.var 4) (.var 7)) (.cons (.var 6) .nil))))) B_law_v1_b2_t2
def B_law_v1_b2 : DL.Sts := .cons (.set (.name 10) (.call 32 (.cons (.sub (.var 3) (.var 7)) (.cons (.var 6) .nil)))) B_law_v1_b2_t1
def B_law_v1_b6 : DL.Sts := .cons (.ret (.cst (.bl false))) .nil
def B_law_v1_b1_t3 : DL.Sts := .cons (.ifs (.ex (.cmp .neT (.call 31 (.cons (.bin .mod (.var 5) (.cst (.int 2))) (.cons (.sub (.var 4) (.cst (.int 0))) (.cons (.var 8) .nil)))) (.tup (.one (.cst (.str [115, 101, 116])) (.one (.var 8) .nil))))) B_law_v1_b6 .nil) .nil
def B_law_v1_b1_t2 : DL.Sts := .cons (.set (.name 8) (.call 39 (.cons (.var 1) (.cons (.var 2) .nil)))) B_law_v1_b1_t3
def B_law_v1_b1_t1 : DL.Sts := .cons (.fr (.name 7) (.seq (.call 17 (.cons (.var 1) (.cons (.lst (.one (.cst (.int 0)) (.one (.cst (.int 1)) .nil))) .nil)))) B_law_v1_b2) B_law_v1_b1_t2
def B_law_v1_b1 : DL.Sts := .cons (.set (.name 6) (.call 18 (.cons (.var 1) (.cons (.var 2) (.cons (.sub (.lst (.one (.cst (.int 2)) (.one (.cst (.int 4)) (.one (.cst (.int 9)) .nil)))) (.call 16 (.cons (.var 1) (.cons (.cst (.int 3)) .nil)))) .nil))))) B_law_v1_b1_t1
def B_law_v1_t5 : DL.Sts := .cons (.ret (.cst (.bl true))) .nil
def B_law_v1_t4 : DL.Sts := .cons (.fr (.name 5) (.range1 (.cst (.int 4))) B_law_v1_b1) B_law_v1_t5
def B_law_v1_t3 : DL.Sts := .cons (.set (.name 4) (.comp (.name 9) [9] (.seq (.var 3)) (.yes) (.call 38 (.cons (.var 1) (.cons (.var 9) .nil))))) B_law_v1_t4
def B_law_v1_t2 : DL.Sts := .cons (.set (.name 3) (.lst (.one (.call 37 (.cons (.var 1) (.cons (.var 2) (.cons (.cst (.int 8)) .nil)))) (.one (.call 37 (.cons (.var 1) (.cons (.var 2) (.cons (.cst (.int 8)) .nil)))) .nil)))) B_law_v1_t3
def B_law_v1_t1 : DL.Sts := .cons (.set (.name 2) (.call 36 (.cons (.var 1) (.cons (.cst (.int 8)) .nil)))) B_law_v1_t2
def B_law_v1 : DL.Sts := .cons (.set (.name 1) (.call 35 (.cons (.var 0) .nil))) B_law_v1_t1
-- B_law_v1: N ['_law_script', '_law_state', '_law_names', '_law_models', '_law_desks', '_law_turn', '_law_known', '_law_k', '_law_odd', '_law_model_here', '_law_due_here', '_law_told_here', '_law_found', '_law_name', '_law_chosen']; calls [('_law_start', ()), ('_law_unknowns', ()), ('_law_model', ()), ('_law_shape', ()), ('_law_part', ()), ('_law_take', ()), ('_law_shuffled', ()), ('_law_due', ()), ('_law_told', ()), ('reached', ()), ('_law_reached', ()), ('_law_odd_set', ())]; mts []; exs []
end TB

local macro_rules
  | `(tactic| simp! only) => `(tactic| simp only [DL.rdS, DL.O.ssNil, DL.rdT, DL.rdE, DL.rdA, DL.rdI, DL.rdO, DL.rdW, DL.look_non, DL.look_bl, DL.look_int, DL.look_str, DL.look_tup, DL.look_lst, DL.look_dic, DL.look_dit, DL.look_ins, DL.look_scr, DL.isRng, List.map_cons, List.map_nil, List.map, List.getElem?_cons_zero, List.getElem?_cons_succ, List.getElem?_nil, List.set_cons_zero, List.set_cons_succ, List.length_cons, List.length_nil, List.cons_append, List.nil_append, List.foldr_cons, List.foldr_nil, Option.some.injEq, exists_eq_left', exists_eq_left, exists_eq_right, and_true, true_and, Nat.zero_add, Nat.reduceAdd, Nat.reduceLT, Nat.lt_add_one, Bool.true_eq_false, Bool.false_eq_true, if_true, if_false, DL.DV.bl.injEq, DL.DV.int.injEq, DL.DV.str.injEq, DL.DV.lst.injEq, DL.DV.tup.injEq, DL.DV.loc.injEq, DL.at0, DL.at1, DL.at2, DL.cut1, DL.O.binAI, DL.O.binAS, DL.O.binAT, DL.O.binAL, DL.O.binS, DL.O.binM, DL.O.binML, DL.O.binF, DL.O.binR, DL.O.binP, DL.O.cmpEq, DL.O.cmpNe, DL.O.cmpIsN, DL.O.cmpNotN, DL.O.cmpLt, DL.O.cmpLtS, DL.O.cmpLe, DL.O.cmpGt, DL.O.cmpGe, DL.O.cmpInL, DL.O.cmpInT, DL.O.cmpInS, DL.O.cmpNiL, DL.O.cmpNiT, DL.O.cmpNiS, DL.O.subL, DL.O.subT, DL.O.subS, DL.O.cutL, DL.O.cutT, DL.O.cutS, DL.O.revL, DL.O.revT, DL.O.revS, DL.O.lenL, DL.O.lenT, DL.O.lenS, DL.O.absI, DL.O.intI, DL.O.intB, DL.O.listL, DL.O.listT, DL.O.listS, DL.O.tupL, DL.O.tupT, DL.O.max2, DL.O.min2, DL.O.anyL, DL.O.allL, DL.O.sumL, DL.O.metA, DL.O.metP, DL.O.metJ, DL.O.metI, DL.O.metR, DL.O.eqT, DL.O.neT, DL.O.opAtt, DL.O.opPrp, DL.O.opMk, DL.O.opDnil, DL.O.opSrt, DL.O.srtL, DL.O.opIsT, DL.O.opNotT, DL.O.isTB, DL.O.fldL, DL.O.attI, DL.O.ln0, DL.O.ln1, DL.O.ln2, DL.O.ln3, DL.O.ln4, DL.O.ln5, DL.O.ln6, DL.O.ln7, DL.O.ln8, DL.O.ln9, DL.O.ln10, DL.O.ln11, DL.O.ln12, DL.O.ln13, DL.O.ln14, DL.O.ln15, DL.O.ln16, DL.O.ln17, DL.O.ln18, DL.O.ln19, DL.O.ln20, DL.O.ln21, DL.O.ln22, DL.O.ln23, DL.O.ln24, DL.O.ln25, DL.O.ln26, DL.O.ln27, DL.O.ln28, DL.O.ln29, DL.O.ln30, DL.O.ln31, DL.O.ln32, List.any_cons, List.any_nil, Bool.or_false, Bool.false_or, implies_true, DL.O.il_non, DL.O.il_bl, DL.O.il_int, DL.O.il_str, DL.O.il_tup, DL.O.il_lst, DL.O.il_dic, DL.O.il_dit, DL.O.il_ins, DL.O.il_scr, DL.O.il_loc, DL.O.nm_non, DL.O.nm_bl, DL.O.nm_int, DL.O.nm_str, DL.O.nm_tup, DL.O.nms_nil, DL.O.nms_cons, DL.O.ns_tup, DL.O.ns_lst, DL.O.ns_scr, DL.O.ns_str, false_implies, true_implies, DL.O.isi_non_int, DL.O.isi_non_bool, DL.O.isi_non_str, DL.O.isi_non_tuple, DL.O.isi_non_list, DL.O.isi_non_dict, DL.O.isi_bl_int, DL.O.isi_bl_bool, DL.O.isi_bl_str, DL.O.isi_bl_tuple, DL.O.isi_bl_list, DL.O.isi_bl_dict, DL.O.isi_int_int, DL.O.isi_int_bool, DL.O.isi_int_str, DL.O.isi_int_tuple, DL.O.isi_int_list, DL.O.isi_int_dict, DL.O.isi_str_int, DL.O.isi_str_bool, DL.O.isi_str_str, DL.O.isi_str_tuple, DL.O.isi_str_list, DL.O.isi_str_dict, DL.O.isi_tup_int, DL.O.isi_tup_bool, DL.O.isi_tup_str, DL.O.isi_tup_tuple, DL.O.isi_tup_list, DL.O.isi_tup_dict, DL.O.isi_lst_int, DL.O.isi_lst_bool, DL.O.isi_lst_str, DL.O.isi_lst_tuple, DL.O.isi_lst_list, DL.O.isi_lst_dict, DL.O.isi_dic_int, DL.O.isi_dic_bool, DL.O.isi_dic_str, DL.O.isi_dic_tuple, DL.O.isi_dic_list, DL.O.isi_dic_dict, DL.O.tru_non, DL.O.tru_bl, DL.O.tru_int, DL.O.tru_lst, DL.O.tru_tup, DL.O.isN_non, DL.O.isN_bl, DL.O.isN_int, DL.O.isN_str, DL.O.isN_tup, DL.O.isN_lst, DL.O.isN_dic, DL.O.isN_loc, DL.O.its_lst, DL.O.its_tup, DL.O.its_str, DL.O.its_scr, DL.O.mty_append, DL.O.mty_pop, DL.O.mty_join, DL.O.mty_index, DL.O.mty_remove, DL.O.isIns_ins, DL.plain_str, DL.plain_int, DL.plain_bl, DL.plain_non, DL.plain_tup, DL.plain_lst, DL.plains_nil, DL.plains_cons, DL.depth_str, DL.depth_int, DL.depth_bl, DL.depth_non, DL.depth_tup, DL.depth_lst, DL.depths_nil, DL.depths_cons, DL.plains_strs, DL.depths_strs, DL.eqv_strD, DL.eqv_int, DL.eqv_bl, DL.eqv_tupS, DL.any_strs, Nat.reduceLeDiff, Nat.zero_le, and_self, Nat.max_self, Nat.zero_max, Nat.max_zero, Bool.and_self, Bool.and_true, Bool.true_and, DL.O.newL, DL.O.newC, DL.O.newT, DL.O.augAI, DL.O.augSI, DL.O.augAL, DL.O.setLI, DL.O.getLI, DL.O.bindN, DL.O.bindT, ↓DL.O.var0, ↓DL.O.var1, ↓DL.O.var2, ↓DL.O.var3, ↓DL.O.var4, ↓DL.O.var5, ↓DL.O.var6, ↓DL.O.var7, ↓DL.O.var8, ↓DL.O.var9, ↓DL.O.var10, ↓DL.O.var11, ↓DL.O.var12, ↓DL.O.var13, ↓DL.O.var14, ↓DL.O.var15, ↓DL.O.var16, ↓DL.O.var17, ↓DL.O.var18, ↓DL.O.var19, ↓DL.O.var20, ↓DL.O.var21, ↓DL.O.var22, ↓DL.O.var23])
  | `(tactic| simp! only [$ls,*]) => `(tactic| simp only [DL.rdS, DL.O.ssNil, DL.rdT, DL.rdE, DL.rdA, DL.rdI, DL.rdO, DL.rdW, DL.look_non, DL.look_bl, DL.look_int, DL.look_str, DL.look_tup, DL.look_lst, DL.look_dic, DL.look_dit, DL.look_ins, DL.look_scr, DL.isRng, List.map_cons, List.map_nil, List.map, List.getElem?_cons_zero, List.getElem?_cons_succ, List.getElem?_nil, List.set_cons_zero, List.set_cons_succ, List.length_cons, List.length_nil, List.cons_append, List.nil_append, List.foldr_cons, List.foldr_nil, Option.some.injEq, exists_eq_left', exists_eq_left, exists_eq_right, and_true, true_and, Nat.zero_add, Nat.reduceAdd, Nat.reduceLT, Nat.lt_add_one, Bool.true_eq_false, Bool.false_eq_true, if_true, if_false, DL.DV.bl.injEq, DL.DV.int.injEq, DL.DV.str.injEq, DL.DV.lst.injEq, DL.DV.tup.injEq, DL.DV.loc.injEq, DL.at0, DL.at1, DL.at2, DL.cut1, DL.O.binAI, DL.O.binAS, DL.O.binAT, DL.O.binAL, DL.O.binS, DL.O.binM, DL.O.binML, DL.O.binF, DL.O.binR, DL.O.binP, DL.O.cmpEq, DL.O.cmpNe, DL.O.cmpIsN, DL.O.cmpNotN, DL.O.cmpLt, DL.O.cmpLtS, DL.O.cmpLe, DL.O.cmpGt, DL.O.cmpGe, DL.O.cmpInL, DL.O.cmpInT, DL.O.cmpInS, DL.O.cmpNiL, DL.O.cmpNiT, DL.O.cmpNiS, DL.O.subL, DL.O.subT, DL.O.subS, DL.O.cutL, DL.O.cutT, DL.O.cutS, DL.O.revL, DL.O.revT, DL.O.revS, DL.O.lenL, DL.O.lenT, DL.O.lenS, DL.O.absI, DL.O.intI, DL.O.intB, DL.O.listL, DL.O.listT, DL.O.listS, DL.O.tupL, DL.O.tupT, DL.O.max2, DL.O.min2, DL.O.anyL, DL.O.allL, DL.O.sumL, DL.O.metA, DL.O.metP, DL.O.metJ, DL.O.metI, DL.O.metR, DL.O.eqT, DL.O.neT, DL.O.opAtt, DL.O.opPrp, DL.O.opMk, DL.O.opDnil, DL.O.opSrt, DL.O.srtL, DL.O.opIsT, DL.O.opNotT, DL.O.isTB, DL.O.fldL, DL.O.attI, DL.O.ln0, DL.O.ln1, DL.O.ln2, DL.O.ln3, DL.O.ln4, DL.O.ln5, DL.O.ln6, DL.O.ln7, DL.O.ln8, DL.O.ln9, DL.O.ln10, DL.O.ln11, DL.O.ln12, DL.O.ln13, DL.O.ln14, DL.O.ln15, DL.O.ln16, DL.O.ln17, DL.O.ln18, DL.O.ln19, DL.O.ln20, DL.O.ln21, DL.O.ln22, DL.O.ln23, DL.O.ln24, DL.O.ln25, DL.O.ln26, DL.O.ln27, DL.O.ln28, DL.O.ln29, DL.O.ln30, DL.O.ln31, DL.O.ln32, List.any_cons, List.any_nil, Bool.or_false, Bool.false_or, implies_true, DL.O.il_non, DL.O.il_bl, DL.O.il_int, DL.O.il_str, DL.O.il_tup, DL.O.il_lst, DL.O.il_dic, DL.O.il_dit, DL.O.il_ins, DL.O.il_scr, DL.O.il_loc, DL.O.nm_non, DL.O.nm_bl, DL.O.nm_int, DL.O.nm_str, DL.O.nm_tup, DL.O.nms_nil, DL.O.nms_cons, DL.O.ns_tup, DL.O.ns_lst, DL.O.ns_scr, DL.O.ns_str, false_implies, true_implies, DL.O.isi_non_int, DL.O.isi_non_bool, DL.O.isi_non_str, DL.O.isi_non_tuple, DL.O.isi_non_list, DL.O.isi_non_dict, DL.O.isi_bl_int, DL.O.isi_bl_bool, DL.O.isi_bl_str, DL.O.isi_bl_tuple, DL.O.isi_bl_list, DL.O.isi_bl_dict, DL.O.isi_int_int, DL.O.isi_int_bool, DL.O.isi_int_str, DL.O.isi_int_tuple, DL.O.isi_int_list, DL.O.isi_int_dict, DL.O.isi_str_int, DL.O.isi_str_bool, DL.O.isi_str_str, DL.O.isi_str_tuple, DL.O.isi_str_list, DL.O.isi_str_dict, DL.O.isi_tup_int, DL.O.isi_tup_bool, DL.O.isi_tup_str, DL.O.isi_tup_tuple, DL.O.isi_tup_list, DL.O.isi_tup_dict, DL.O.isi_lst_int, DL.O.isi_lst_bool, DL.O.isi_lst_str, DL.O.isi_lst_tuple, DL.O.isi_lst_list, DL.O.isi_lst_dict, DL.O.isi_dic_int, DL.O.isi_dic_bool, DL.O.isi_dic_str, DL.O.isi_dic_tuple, DL.O.isi_dic_list, DL.O.isi_dic_dict, DL.O.tru_non, DL.O.tru_bl, DL.O.tru_int, DL.O.tru_lst, DL.O.tru_tup, DL.O.isN_non, DL.O.isN_bl, DL.O.isN_int, DL.O.isN_str, DL.O.isN_tup, DL.O.isN_lst, DL.O.isN_dic, DL.O.isN_loc, DL.O.its_lst, DL.O.its_tup, DL.O.its_str, DL.O.its_scr, DL.O.mty_append, DL.O.mty_pop, DL.O.mty_join, DL.O.mty_index, DL.O.mty_remove, DL.O.isIns_ins, DL.plain_str, DL.plain_int, DL.plain_bl, DL.plain_non, DL.plain_tup, DL.plain_lst, DL.plains_nil, DL.plains_cons, DL.depth_str, DL.depth_int, DL.depth_bl, DL.depth_non, DL.depth_tup, DL.depth_lst, DL.depths_nil, DL.depths_cons, DL.plains_strs, DL.depths_strs, DL.eqv_strD, DL.eqv_int, DL.eqv_bl, DL.eqv_tupS, DL.any_strs, Nat.reduceLeDiff, Nat.zero_le, and_self, Nat.max_self, Nat.zero_max, Nat.max_zero, Bool.and_self, Bool.and_true, Bool.true_and, DL.O.newL, DL.O.newC, DL.O.newT, DL.O.augAI, DL.O.augSI, DL.O.augAL, DL.O.setLI, DL.O.getLI, DL.O.bindN, DL.O.bindT, ↓DL.O.var0, ↓DL.O.var1, ↓DL.O.var2, ↓DL.O.var3, ↓DL.O.var4, ↓DL.O.var5, ↓DL.O.var6, ↓DL.O.var7, ↓DL.O.var8, ↓DL.O.var9, ↓DL.O.var10, ↓DL.O.var11, ↓DL.O.var12, ↓DL.O.var13, ↓DL.O.var14, ↓DL.O.var15, ↓DL.O.var16, ↓DL.O.var17, ↓DL.O.var18, ↓DL.O.var19, ↓DL.O.var20, ↓DL.O.var21, ↓DL.O.var22, ↓DL.O.var23, $ls,*])
set_option linter.all false
set_option maxRecDepth 10000
namespace PX
open DL TB
variable {G : Nat → Option Fn}
/-! ### naming -/
def isPartB (names : List S) : DV → Bool
  | .tup xs => eqvs xs ((names.filter fun n => xs.any fun z => eqv z (.str n)).map .str)
  | _ => false
def isPartS : PSp := fun ds Q _ => ∃ names v, ds = [strT names, v] ∧ vOk v ∧ Q (.bl (isPartB names v))
theorem isPart_no {names : List S} {v : DV} (h : kindB .tuple v = false) : isPartB names v = false := by
  cases v <;> first | rfl | (simp [kindB] at h)
theorem isPart_tup {names l : List S} : isPartB names (strT l) = decide (l = names.filter fun n => decide (n ∈ l)) := by
  unfold isPartB strT
  simp only [any_strs, eqvs_strs]
theorem tup_of {v : DV} (h : kindB .tuple v = true) : ∃ xs, v = .tup xs := by
  cases v <;> first | exact ⟨_, rfl⟩ | (simp [kindB] at h)
theorem d_is_part : ∀ ds Q E, isPartS ds Q E → rdF G 3 B_is_part ds Mu.nil (fun d _ => Q d) (fun x _ => E x) := by
  rintro ds Q E ⟨names, v, rfl, hv, hq⟩
  (simp only [rdF, B_is_part, strT, List.map_cons, List.map_nil, List.length_cons, List.length_nil, Nat.zero_add, Nat.reduceAdd, Nat.reduceSub, List.replicate_succ, List.replicate_zero, List.cons_append, List.nil_append]; rw [O.ssCons])
  (try simp! only [isiV hv (k := .tuple) rfl, hv.look])
  cases hk : kindB .tuple v with
  | false =>
    rw [isPart_no hk] at hq
    simp only [Bool.not_false, if_true, B_is_part_b1, rdSs]
    (try simp! only)
    exact hq
  | true =>
    obtain ⟨xs, rfl⟩ := tup_of hk
    obtain ⟨hp, hd⟩ : plains xs = true ∧ depths xs ≤ 39 := by
      rcases hv with h | ⟨h1, h2⟩
      · cases h
      · rw [plain_tup] at h1
        rw [depth_tup] at h2
        exact ⟨h1, by omega⟩
    simp only [Bool.not_true, Bool.false_eq_true, if_false, B_is_part_t1, rdSs]
    (try simp! only)
    refine compW_flt (fun n => xs.any fun z => eqv z (.str n)) trivial (fun n _ kk h => ?_) ?_
    · (try simp! only)
      exact ⟨⟨hp, Nat.le_trans hd (by decide)⟩, h⟩
    · (try simp! only [hp])
      exact ⟨by omega, hq⟩
/-- what is a part is a tuple of texts -/
theorem eqvs_str_inv : ∀ {xs : List DV} {l : List S}, eqvs xs (l.map DV.str) = true → xs = l.map DV.str
  | [], [], _ => rfl
  | [], _ :: _, h => by simp [eqvs] at h
  | _ :: _, [], h => by simp [eqvs] at h
  | x :: r, y :: t, h => by
    rw [List.map_cons, eqvs_cons, Bool.and_eq_true] at h
    rw [eqvs_str_inv h.2, List.map_cons]
    congr 1
    have h1 := h.1
    cases x <;> first | (simp [eqv] at h1; done) | skip
    rw [eqv_strD, decide_eq_true_eq] at h1
    rw [h1]
theorem isPart_inv {names : List S} {v : DV} (h : isPartB names v = true) : ∃ l, v = strT l ∧ l = names.filter fun n => decide (n ∈ l) := by
  cases v <;> first | (cases h; done) | skip
  rename_i xs
  have e := eqvs_str_inv h
  refine ⟨_, congrArg DV.tup e, ?_⟩
  have h2 : isPartB names (strT (names.filter fun n => xs.any fun z => eqv z (.str n))) = true := by
    unfold strT
    rw [← e]
    exact h
  rw [isPart_tup, decide_eq_true_eq] at h2
  exact h2
def isIntB : DV → Bool
  | .int _ => true
  | _ => false
def isIntegerS : PSp := fun ds Q _ => ∃ v, ds = [v] ∧ vOk v ∧ Q (.bl (isIntB v))
theorem d_is_integer : ∀ ds Q E, isIntegerS ds Q E → rdF G 1 B_is_integer ds Mu.nil (fun d _ => Q d) (fun x _ => E x) := by
  rintro ds Q E ⟨v, rfl, hv, hq⟩
  (simp only [rdF, B_is_integer, List.map_cons, List.map_nil, List.length_cons, List.length_nil, Nat.zero_add, Nat.reduceAdd, Nat.reduceSub, List.replicate_succ, List.replicate_zero, List.cons_append, List.nil_append]; rw [O.ssCons])
  (try simp! only [isiV hv (k := .int) rfl, isiV hv (k := .bool) rfl, hv.look])
  cases v <;> simp_all [kindB, isIntB]
/-! ### the defs' promises, by number -/
def isSetS : PSp := isPartS
theorem d_is_set (h0 : G 0 = some (.pure isPartS)) : ∀ ds Q E, isSetS ds Q E → rdF G 2 B_is_set ds Mu.nil (fun d _ => Q d) (fun x _ => E x) := by
  rintro ds Q E ⟨names, v, rfl, hv, hq⟩
  (simp only [rdF, B_is_set, List.map_cons, List.map_nil, List.length_cons, List.length_nil, Nat.zero_add, Nat.reduceAdd, Nat.reduceSub, List.replicate_succ, List.replicate_zero, List.cons_append, List.nil_append]; rw [O.ssCons])
  (try simp! only [callP h0, hv.look, strT, hv.nl])
  exact ⟨names, v, rfl, hv, hq⟩
end PX

set_option linter.all false
set_option maxRecDepth 10000
namespace PX
open DL TB
variable {G : Nat → Option Fn}
/-! ### shapes' properties -/
def unknownsS : PSp := fun ds Q _ => ∃ sh, ds = [shD sh] ∧ Q (strT sh.names)
def rowsS : PSp := fun ds Q _ => ∃ sh : Sh, ds = [shD sh] ∧ Q (.tup (sh.rows.map rowD))
theorem d_unknowns : ∀ ds Q E, unknownsS ds Q E → rdF G 1 B_Shape_unknowns ds Mu.nil (fun d _ => Q d) (fun x _ => E x) := by
  rintro ds Q E ⟨sh, rfl, hq⟩
  (simp only [rdF, B_Shape_unknowns, List.map_cons, List.map_nil, List.length_cons, List.length_nil, Nat.zero_add, Nat.reduceAdd, Nat.reduceSub, List.replicate_succ, List.replicate_zero, List.cons_append, List.nil_append]; rw [O.ssCons])
  (try simp! only [shD])
  exact ⟨strT sh.names, rfl, hq⟩
theorem d_rows : ∀ ds Q E, rowsS ds Q E → rdF G 1 B_Shape_rows ds Mu.nil (fun d _ => Q d) (fun x _ => E x) := by
  rintro ds Q E ⟨sh, rfl, hq⟩
  (simp only [rdF, B_Shape_rows, List.map_cons, List.map_nil, List.length_cons, List.length_nil, Nat.zero_add, Nat.reduceAdd, Nat.reduceSub, List.replicate_succ, List.replicate_zero, List.cons_append, List.nil_append]; rw [O.ssCons])
  (try simp! only [shD])
  exact ⟨_, rfl, hq⟩
/-- what the defs of the program promise -/
structure GP (G : Nat → Option Fn) : Prop where
  unk : G 1003 = some (.pure unknownsS)
  rws : G 1004 = some (.pure rowsS)
  isPart : G 0 = some (.pure isPartS)
  isSet : G 7 = some (.pure isSetS)
  isInt : G 8 = some (.pure isIntegerS)
theorem look_shD {sh : Sh} {m : Mu} : look m (shD sh) = shD sh := rfl
theorem il_shD {sh : Sh} : isLoc (shD sh) = false := rfl
theorem isIns_shD {sh : Sh} : isIns 0 (shD sh) = true := rfl
theorem prpU (h : G 1003 = some (.pure unknownsS)) {sh : Sh} {m : Mu} {k : Post} {e : XPost} : opD G (.prp 3 0) [shD sh] m k e = k (strT sh.names) m := by
  rw [O.opPrp, callP h]
  refine propext ⟨fun ⟨_, sh', e', _, h2⟩ => ?_, fun hk => ⟨rfl, sh, rfl, (⟨fun hl => absurd hl (by simp [il_shD]), hk⟩ : ([shD sh].any isLoc = true → noMut (strT sh.names) = true) ∧ k (strT sh.names) m)⟩⟩
  have e1 : shD sh = shD sh' := by simpa [look_shD] using e'
  have : strT sh.names = strT sh'.names := by
    unfold shD at e1
    injection e1 with _ e2
    injection e2 with e3 _
    injection e3
  rw [this]
  exact h2
theorem prpR (h : G 1004 = some (.pure rowsS)) {sh : Sh} {m : Mu} {k : Post} {e : XPost} : opD G (.prp 4 0) [shD sh] m k e = k (.tup (sh.rows.map rowD)) m := by
  rw [O.opPrp, callP h]
  refine propext ⟨fun ⟨_, sh', e', _, h2⟩ => ?_, fun hk => ⟨rfl, sh, rfl, (⟨fun hl => absurd hl (by simp [il_shD]), hk⟩ : ([shD sh].any isLoc = true → noMut (DV.tup (sh.rows.map rowD)) = true) ∧ k (.tup (sh.rows.map rowD)) m)⟩⟩
  have e1 : shD sh = shD sh' := by simpa [look_shD] using e'
  have : DV.tup (sh.rows.map rowD) = .tup (sh'.rows.map rowD) := by
    unfold shD at e1
    injection e1 with _ e2
    injection e2 with _ e3
    injection e3 with e3 _
    injection e3
  rw [this]
  exact h2
/-! ### the checks of what is asked -/
def checkReadingsS : PSp := fun ds Q E => ∃ sh v, ds = [shD sh, v] ∧ vOk v ∧ (isPartB sh.names v = true → Q .non) ∧ (isPartB sh.names v = false → E ⟨4, v⟩)
theorem d_check_readings (g : GP G) : ∀ ds Q E, checkReadingsS ds Q E → rdF G 2 B_check_readings ds Mu.nil (fun d _ => Q d) (fun x _ => E x) := by
  rintro ds Q E ⟨sh, v, rfl, hv, hq, he⟩
  (simp only [rdF, B_check_readings, List.map_cons, List.map_nil, List.length_cons, List.length_nil, Nat.zero_add, Nat.reduceAdd, Nat.reduceSub, List.replicate_succ, List.replicate_zero, List.cons_append, List.nil_append]; rw [O.ssCons])
  (try simp! only [prpU g.unk, callP g.isSet, hv.look, strT, hv.nl])
  refine ⟨sh.names, v, rfl, hv, ?_⟩
  cases hp : isPartB sh.names v with
  | true =>
    (try simp! only [Bool.not_true])
    exact hq hp
  | false =>
    (try simp! only [Bool.not_false, B_check_readings_b1, rdSs])
    exact he hp
def checkNameS : PSp := fun ds Q E => ∃ sh x, ds = [shD sh, .str x] ∧ (x ∈ sh.names → Q .non) ∧ (x ∉ sh.names → E ⟨2, .str x⟩)
theorem d_check_name (g : GP G) : ∀ ds Q E, checkNameS ds Q E → rdF G 2 B_check_name ds Mu.nil (fun d _ => Q d) (fun x _ => E x) := by
  rintro ds Q E ⟨sh, x, rfl, hq, he⟩
  (simp only [rdF, B_check_name, List.map_cons, List.map_nil, List.length_cons, List.length_nil, Nat.zero_add, Nat.reduceAdd, Nat.reduceSub, List.replicate_succ, List.replicate_zero, List.cons_append, List.nil_append]; rw [O.ssCons])
  (try simp! only [prpU g.unk, strT])
  by_cases h : x ∈ sh.names
  · rw [if_neg (by simp [h])]
    exact hq h
  · rw [if_pos (by simp [h])]
    (try simp! only [B_check_name_b1, rdSs])
    exact he h
/-! ### steps -/
/-- x follows from a row when some stand -/
def stepB (r : Row) (st : List S) (x : S) : Bool := decide (x ∉ st) && (decide (x ∈ r.1) && (r.1 ++ r.2).all fun o => decide (o = x) || decide (o ∈ st))
def stepD (p : Nat × S) : DV := .tup [.int (p.1 : Int), .str p.2]
theorem plain_stepD {p : Nat × S} : plain (stepD p) = true := by unfold stepD; simp [plain_tup, plains_cons, plain_int, plain_str, plains_nil]
theorem depth_stepD {p : Nat × S} : depth (stepD p) = 1 := by unfold stepD; simp [depth_tup, depths_cons, depth_int, depth_str, depths_nil]
def stepAt (rows : List Row) (st : List S) (n : Nat) (x : S) : Bool := match rows[n]? with | some r => stepB r st x | none => false
theorem stepAt_some {rows : List Row} {st : List S} {n : Nat} {x : S} {r : Row} (h : rows[n]? = some r) : stepAt rows st n x = stepB r st x := by unfold stepAt; rw [h]
theorem stepAt_none {rows : List Row} {st : List S} {n : Nat} {x : S} (h : rows[n]? = none) : stepAt rows st n x = false := by unfold stepAt; rw [h]
/-- is_step, asked with a number and a text -/
def isStepS : PSp := fun ds Q _ => ∃ sh st n x, ds = [shD sh, .lst (st.map DV.str), stepD (n, x)] ∧ ShOk sh ∧ Q (.bl (stepAt sh.rows st n x))
theorem d_is_step (g : GP G) : ∀ ds Q E, isStepS ds Q E → rdF G 8 B_is_step ds Mu.nil (fun d _ => Q d) (fun x _ => E x) := by
  rintro ds Q E ⟨sh, st, n, x, rfl, ok, hq⟩
  (simp only [rdF, B_is_step, stepD, List.map_cons, List.map_nil, List.length_cons, List.length_nil, Nat.zero_add, Nat.reduceAdd, Nat.reduceSub, List.replicate_succ, List.replicate_zero, List.cons_append, List.nil_append]; rw [O.ssCons])
  (try simp! only [callP g.isInt])
  refine iteF (by decide) ?_
  refine ⟨_, rfl, .inr ⟨rfl, by rw [depth_int]; decide⟩, ?_⟩
  (try simp! only [isIntB, Bool.not_true])
  ((try dsimp only); rw [B_is_step_t1, O.ssCons]; simp! only)
  ((try dsimp only); rw [B_is_step_t2, O.ssCons]; simp! only [prpR g.rws, List.length_map])
  refine iteT (by simp) ?_
  by_cases hn : n < sh.rows.length
  · have hr := List.getElem?_eq_getElem hn
    rw [stepAt_some hr] at hq
    refine iteF (by simp; omega) ?_
    by_cases hs : x ∈ st
    · rw [if_pos (by simp [hs])]
      (try simp! only [B_is_step_b2, rdSs])
      have : stepB sh.rows[n] st x = false := by simp [stepB, hs]
      simp only [this] at hq
      exact hq
    · rw [if_neg (by simp [hs])]
      ((try dsimp only); rw [B_is_step_t3, O.ssCons]; simp! only [prpR g.rws])
      refine ⟨rowD sh.rows[n], by rw [atD_some (by omega) (by simp; omega)]; simp, ?_⟩
      (try simp! only [rowD, strT])
      ((try dsimp only); rw [B_is_step_t4, O.ssCons]; simp! only)
      by_cases hx : x ∈ sh.rows[n].1
      · rw [if_pos (by simp [hx])]
        have hl := ok.len (List.getElem_mem hn)
        refine ⟨by simp only [List.length_map]; exact Nat.le_trans hl (by decide), ?_⟩
        rw [← List.map_append]
        refine compW_mp (fun o => DV.bl (decide (o = x) || decide (o ∈ st))) trivial (fun o _ kk h => ?_) ?_
        · (try simp! only)
          by_cases ho : o = x
          · simp only [ho, decide_true, if_true]
            simpa [ho] using h
          · simp only [ho, decide_false, Bool.false_eq_true, if_false]
            simpa [ho] using h
        · refine ⟨_, bls_map _, ?_⟩
          rw [all_idm]
          have : stepB sh.rows[n] st x = ((sh.rows[n].1 ++ sh.rows[n].2).all fun o => decide (o = x) || decide (o ∈ st)) := by simp [stepB, hs, hx]
          simp only [this] at hq
          exact hq
      · rw [if_neg (by simp [hx])]
        have : stepB sh.rows[n] st x = false := by simp [stepB, hx]
        simp only [this] at hq
        exact hq
  · have hr : sh.rows[n]? = none := List.getElem?_eq_none (by omega)
    rw [stepAt_none hr] at hq
    refine iteT (by simp; omega) ?_
    (try simp! only [B_is_step_b2, rdSs])
    exact hq
end PX

set_option linter.all false
set_option maxRecDepth 10000
namespace PX
open DL TB
variable {G : Nat → Option Fn}
/-! ### steps, on and on -/
def nextS (st : List S) (rows : List Row) : Option (Nat × S) := (enumP 0 rows).findSome? fun p => (p.2.1.findSome? fun x => if stepB p.2 st x = true then some x else none).map fun x => (p.1, x)
def stepsF (rows : List Row) : Nat → List S → List (Nat × S)
  | 0, _ => []
  | n + 1, st => match nextS st rows with
    | none => []
    | some (j, x) => (j, x) :: stepsF rows n (st ++ [x])
def stepsOf (sh : Sh) (rd : List S) : List (Nat × S) := stepsF sh.rows sh.names.length rd
def reachedL (sh : Sh) (rd : List S) : List S := sortS (rd ++ (stepsOf sh rd).map (·.2))
theorem enumP_get {α : Type} : ∀ {l : List α} {n j : Nat} {x : α}, (j, x) ∈ enumP n l → n ≤ j ∧ l[j - n]? = some x
  | [], _, _, _, h => by cases h
  | y :: t, n, j, x, h => by
    simp only [enumP, List.mem_cons, Prod.mk.injEq] at h
    rcases h with ⟨rfl, rfl⟩ | h
    · exact ⟨Nat.le_refl _, by simp⟩
    · obtain ⟨h1, h2⟩ := enumP_get h
      refine ⟨by omega, ?_⟩
      have : j - n = (j - (n + 1)) + 1 := by omega
      rw [this, List.getElem?_cons_succ]
      exact h2
theorem nextS_some {st : List S} {rows : List Row} {j : Nat} {x : S} (h : nextS st rows = some (j, x)) : ∃ r, rows[j]? = some r ∧ stepB r st x = true := by
  unfold nextS at h
  obtain ⟨p, hp, hx⟩ := List.exists_of_findSome?_eq_some h
  obtain ⟨j', r⟩ := p
  obtain ⟨y, hy, e⟩ := Option.map_eq_some_iff.mp hx
  cases e
  obtain ⟨z, _, hz⟩ := List.exists_of_findSome?_eq_some hy
  split at hz
  · rename_i hb
    cases hz
    obtain ⟨_, h2⟩ := enumP_get hp
    exact ⟨r, by simpa using h2, hb⟩
  · cases hz
def nextStepS : PSp := fun ds Q _ => ∃ sh st, ds = [shD sh, .lst (st.map DV.str)] ∧ ShOk sh ∧ Q (match nextS st sh.rows with | none => .non | some p => stepD p)
structure GP2 (G : Nat → Option Fn) : Prop extends GP G where
  isStep : G 9 = some (.pure isStepS)
theorem d_next_step (g : GP2 G) : ∀ ds Q E, nextStepS ds Q E → rdF G 6 B_next_step ds Mu.nil (fun d _ => Q d) (fun x _ => E x) := by
  rintro ds Q E ⟨sh, st, rfl, ok, hq⟩
  (simp only [rdF, B_next_step, List.map_cons, List.map_nil, List.length_cons, List.length_nil, Nat.zero_add, Nat.reduceAdd, Nat.reduceSub, List.replicate_succ, List.replicate_zero, List.cons_append, List.nil_append]; rw [O.ssCons])
  (try simp! only [prpR g.rws, DV.tup.injEq, reduceCtorEq, false_or, exists_eq_left'])
  rw [enumL_map]
  refine forW_fs (fun p : Nat × Row => (p.2.1.findSome? fun x => if stepB p.2 st x = true then some x else none).map fun x => (p.1, x)) (fun r => ∃ a b c d, r = [some (shD sh), some (.lst (st.map DV.str)), a, b, c, d]) (fun p => Q (stepD p)) ⟨_, _, _, _, rfl⟩ ?_ ?_ ?_
  · rintro ⟨n, r⟩ hp r' ⟨a, b, c, d, rfl⟩ K hK
    obtain ⟨_, hr⟩ := enumP_get hp
    refine ⟨trivial, ?_⟩
    (try simp! only [rowD])
    ((try dsimp only); rw [B_next_step_b1, O.ssCons]; simp! only [strT])
    refine forW_fs (fun x => if stepB r st x = true then some x else none) (fun r' => ∃ b, r' = [some (shD sh), some (.lst (st.map DV.str)), some (.int n), b, some (.tup (r.1.map DV.str)), some (.tup (r.2.map DV.str))]) (fun x => Q (stepD (n, x))) ⟨_, rfl⟩ ?_ ?_ ?_
    · rintro x hx r' ⟨b, rfl⟩ K2 hK2
      refine ⟨trivial, ?_⟩
      (try simp! only)
      ((try dsimp only); rw [B_next_step_b2, O.ssCons]; simp! only [callP g.isStep, look_shD, il_shD])
      refine ⟨sh, st, n, x, rfl, ok, ?_⟩
      have hr' : sh.rows[n]? = some r := by simpa using hr
      rw [stepAt_some hr']
      cases hs : stepB r st x with
      | true =>
        rw [hs] at hK2
        (try simp! only [B_next_step_b3, rdSs])
        rcases hK2 with ⟨y, e, h⟩ | ⟨e, _⟩
        · simp only [if_true, Option.some.injEq] at e
          subst e
          exact h
        · cases e
      | false =>
        rw [hs] at hK2
        (try simp! only)
        rcases hK2 with ⟨y, e, h⟩ | ⟨_, h⟩
        · cases e
        · exact h _ ⟨_, rfl⟩
    · intro x hx
      rcases hK with ⟨p, e, h⟩ | ⟨e, _⟩
      · rw [hx] at e
        cases e
        exact h
      · rw [hx] at e
        cases e
    · rintro hx r' ⟨b', rfl⟩
      refine ⟨trivial, ?_⟩
      (try simp! only)
      rcases hK with ⟨p, e, h⟩ | ⟨_, h⟩
      · rw [hx] at e
        cases e
      · exact h _ ⟨_, _, _, _, rfl⟩
  · intro p hp
    have e : nextS st sh.rows = some p := hp
    rw [e] at hq
    exact hq
  · rintro hp r' ⟨a, b, c, d, rfl⟩
    have e : nextS st sh.rows = none := hp
    rw [e] at hq
    refine ⟨trivial, ?_⟩
    ((try dsimp only); rw [B_next_step_t1, O.ssCons]; simp! only)
    exact hq
end PX

set_option linter.all false
set_option maxRecDepth 10000
namespace PX
open DL TB
variable {G : Nat → Option Fn}
structure GP3 (G : Nat → Option Fn) : Prop extends GP2 G where
  nextStep : G 12 = some (.pure nextStepS)
  checkReadings : G 10 = some (.pure checkReadingsS)
  checkName : G 14 = some (.pure checkNameS)
def stepsFromS : FSp := fun ds m k e => ∃ sh v, ds = [shD sh, v] ∧ ShOk sh ∧ vOk v ∧ (isPartB sh.names v = false → e ⟨4, v⟩ m) ∧
  (∀ rd, v = strT rd → isPartB sh.names v = true → ∀ a m', m a = none → Kp m m' → m' a = some (.lst ((stepsOf sh rd).map stepD)) → k (.loc a) m')
/-- how many do not stand -/
def free (names st : List S) : Nat := (names.filter fun x => decide (x ∉ st)).length
theorem free_lt {names st : List S} {x : S} (hx : x ∈ names) (hs : x ∉ st) : free names (st ++ [x]) < free names st := by
  unfold free
  induction names with
  | nil => cases hx
  | cons a r ih =>
    have mono : (r.filter fun y => decide (y ∉ st ++ [x])).length ≤ (r.filter fun y => decide (y ∉ st)).length := by
      clear ih hx
      induction r with
      | nil => simp
      | cons b t ih =>
        by_cases h1 : b ∈ st
        · rw [List.filter_cons_of_neg (by simp [h1]), List.filter_cons_of_neg (by simp [h1])]
          exact ih
        · by_cases h2 : b = x
          · rw [List.filter_cons_of_neg (by simp [h2]), List.filter_cons_of_pos (by simp [h1])]
            simp only [List.length_cons]
            omega
          · rw [List.filter_cons_of_pos (by simp [h1, h2]), List.filter_cons_of_pos (by simp [h1])]
            simp only [List.length_cons]
            omega
    by_cases h2 : a = x
    · subst h2
      rw [List.filter_cons_of_neg (by simp), List.filter_cons_of_pos (by simp [hs])]
      simp only [List.length_cons]
      omega
    · have hr : x ∈ r := by
        rcases List.mem_cons.mp hx with z | z
        · exact absurd z.symm h2
        · exact z
      have := ih hr
      by_cases h1 : a ∈ st
      · rw [List.filter_cons_of_neg (by simp [h1]), List.filter_cons_of_neg (by simp [h1])]
        exact this
      · rw [List.filter_cons_of_pos (by simp [h1, h2]), List.filter_cons_of_pos (by simp [h1])]
        simp only [List.length_cons]
        omega
theorem free_le (names st : List S) : free names st ≤ names.length := List.length_filter_le _ _
theorem next_in {sh : Sh} (ok : ShOk sh) {st : List S} {j : Nat} {x : S} (h : nextS st sh.rows = some (j, x)) : x ∈ sh.names ∧ x ∉ st ∧ j < sh.rows.length := by
  obtain ⟨r, hr, hs⟩ := nextS_some h
  unfold stepB at hs
  simp only [Bool.and_eq_true, decide_eq_true_eq] at hs
  have hm : r ∈ sh.rows := List.mem_of_getElem? hr
  exact ⟨(ok.sub r hm).1 x hs.2.1, hs.1, (List.getElem?_eq_some_iff.mp hr).1⟩
theorem d_steps_from (g : GP3 G) : ∀ ds m k e, stepsFromS ds m k e → rdF G 5 B_steps_from ds m k e := by
  rintro ds m k e ⟨sh, v, rfl, ok, hv, he, hk⟩
  (simp only [rdF, B_steps_from, List.map_cons, List.map_nil, List.length_cons, List.length_nil, Nat.zero_add, Nat.reduceAdd, Nat.reduceSub, List.replicate_succ, List.replicate_zero, List.cons_append, List.nil_append]; rw [O.ssCons])
  (try simp! only [callP g.checkReadings, hv.look, hv.nl, look_shD, il_shD])
  refine ⟨sh, v, rfl, hv, fun hp => ?_, fun hp => he hp⟩
  obtain ⟨rd, rfl, hrf⟩ := isPart_inv hp
  have hk := hk rd rfl hp
  ((try dsimp only); rw [B_steps_from_t1, O.ssCons]; simp! only)
  intro a ha
  ((try dsimp only); rw [B_steps_from_t2, O.ssCons]; simp! only [strT])
  intro b hb
  have hab : b ≠ a := fun e => by rw [e, put_same] at hb; cases hb
  have hmb : m b = none := by rw [put_ne hab] at hb; exact hb
  rw [B_steps_from_t3, O.ssCons, rdS]
  refine ⟨sh.names.length + 1, whwW_inv (fun n r m' => ∃ done st w, r = [some (shD sh), some (strT rd), some (.loc a), some (.loc b), w] ∧ m' = (m.put a (.lst (done.map stepD))).put b (.lst (st.map DV.str)) ∧ free sh.names st ≤ n ∧ n ≤ sh.names.length ∧ done.length + n ≤ sh.names.length ∧ st.length + n ≤ rd.length + sh.names.length ∧
    stepsOf sh rd = done ++ stepsF sh.rows n st) ?_ (Nat.lt_succ_self _) ⟨[], rd, none, rfl, rfl, free_le _ _, Nat.le_refl _, by simp, Nat.le_refl _, rfl⟩⟩
  rintro n r m' ⟨done, st, w, rfl, rfl, hf, hn, hd, hst, hall⟩ K hK
  have la : look ((m.put a (.lst (done.map stepD))).put b (.lst (st.map DV.str))) (.loc b) = .lst (st.map DV.str) := look_loc put_same
  refine ⟨by simp, ?_⟩
  (try simp! only [callP g.nextStep, la, look_shD, il_shD])
  refine ⟨sh, st, rfl, ok, ?_⟩
  cases hnx : nextS st sh.rows with
  | none =>
    have e0 : stepsF sh.rows n st = [] := by
      cases n with
      | zero => rfl
      | succ n => simp only [stepsF, hnx]
    rw [e0, List.append_nil] at hall
    (try simp! only)
    ((try dsimp only); rw [B_steps_from_t4, O.ssCons]; simp! only)
    refine hk a _ ha ?_ ?_
    · exact (Kp.rfl'.put ha).put hmb
    · rw [put_ne (Ne.symm hab), put_same, hall]
  | some p =>
    obtain ⟨j, x⟩ := p
    obtain ⟨hx1, hx2, hj⟩ := next_in ok hnx
    have hlt := free_lt hx1 hx2
    cases n with
    | zero => omega
    | succ n =>
      rw [show stepsF sh.rows (n + 1) st = (j, x) :: stepsF sh.rows n (st ++ [x]) by simp only [stepsF, hnx]] at hall
      have hrd : rd.length ≤ 8 := by
        have h1 := congrArg List.length hrf
        have h2 := List.length_filter_le (fun n => decide (n ∈ rd)) sh.names
        have h3 := ok.n8
        omega
      have h8 := ok.n8
      (try simp! only [stepD])
      have lka : look ((m.put a (.lst (done.map stepD))).put b (.lst (st.map DV.str))) (.loc a) = .lst (done.map stepD) := look_loc (by rw [put_ne (Ne.symm hab), put_same])
      ((try dsimp only); rw [B_steps_from_b1, O.ssCons]; simp! only [lka])
      refine ⟨_, by rw [put_ne (Ne.symm hab), put_same], by simp only [List.length_map]; exact Nat.lt_of_lt_of_le (m := 20) (by omega) (by decide), ?_⟩
      have lb : (((m.put a (.lst (done.map stepD))).put b (.lst (st.map DV.str))).put a (.lst (done.map stepD ++ [.tup [.int (j : Int), .str x]]))) b = some (.lst (st.map DV.str)) := by rw [put_ne hab, put_same]
      ((try dsimp only); rw [B_steps_from_b1_t1, O.ssCons]; simp! only [look_loc lb])
      refine ⟨_, lb, by simp only [List.length_map]; exact Nat.lt_of_lt_of_le (m := 40) (by omega) (by decide), ?_⟩
      refine hK n _ _ (Nat.lt_succ_self n) ⟨done ++ [(j, x)], st ++ [x], _, rfl, ?_, by omega, by omega, by simp; omega, by simp; omega, by rw [hall]; simp⟩
      funext c
      unfold Mu.put
      by_cases h1 : c = b
      · simp [h1]
      · by_cases h2 : c = a
        · simp [h1, h2, Ne.symm hab, stepD]
        · simp [h1, h2]
end PX

set_option linter.all false
set_option maxRecDepth 10000
namespace PX
open DL TB
variable {G : Nat → Option Fn}
structure GP4 (G : Nat → Option Fn) : Prop extends GP3 G where
  stepsFrom : G 13 = some (.gen stepsFromS)
theorem part_len {names rd : List S} (h : rd = names.filter fun n => decide (n ∈ rd)) : rd.length ≤ names.length := by
  have h1 := congrArg List.length h
  have h2 := List.length_filter_le (fun n => decide (n ∈ rd)) names
  omega
theorem stepsF_len (rows : List Row) : ∀ n st, (stepsF rows n st).length ≤ n
  | 0, _ => Nat.le_refl 0
  | n + 1, st => by
    unfold stepsF
    split
    · simp
    · simp only [List.length_cons]
      exact Nat.succ_le_succ (stepsF_len rows n _)
theorem stepsOf_len {sh : Sh} (ok : ShOk sh) (rd : List S) : (stepsOf sh rd).length ≤ 8 := Nat.le_trans (stepsF_len _ _ _) ok.n8
theorem map_inj_str {a b : List S} (h : a.map DV.str = b.map DV.str) : a = b := by
  have : decide (a = b) = true := by rw [← eqvs_strs, h, eqvs_strs]; simp
  simpa using this
theorem strT_inj {a b : List S} (h : strT a = strT b) : a = b := by
  unfold strT at h
  injection h with h
  exact map_inj_str h
def reachedS : PSp := fun ds Q E => ∃ sh v, ds = [shD sh, v] ∧ ShOk sh ∧ vOk v ∧ (isPartB sh.names v = false → E ⟨4, v⟩) ∧ (∀ rd, v = strT rd → isPartB sh.names v = true → Q (strT (reachedL sh rd)))
theorem d_reached (g : GP4 G) : ∀ ds Q E, reachedS ds Q E → rdF G 4 B_reached ds Mu.nil (fun d _ => Q d) (fun x _ => E x) := by
  rintro ds Q E ⟨sh, v, rfl, ok, hv, he, hq⟩
  (simp only [rdF, B_reached, List.map_cons, List.map_nil, List.length_cons, List.length_nil, Nat.zero_add, Nat.reduceAdd, Nat.reduceSub, List.replicate_succ, List.replicate_zero, List.cons_append, List.nil_append]; rw [O.ssCons])
  (try simp! only [callG g.stepsFrom])
  refine ⟨sh, v, rfl, ok, hv, he, ?_⟩
  rintro rd rfl hp a m' _ _ hm
  have hq := hq rd rfl hp
  have hl : rd.length ≤ 8 := by
    obtain ⟨l, e, h⟩ := isPart_inv hp
    rw [strT_inj e]
    exact Nat.le_trans (part_len h) ok.n8
  have hs := stepsOf_len ok rd
  ((try dsimp only); rw [B_reached_t1, O.ssCons]; simp! only [strT, look_loc hm, DV.lst.injEq, DV.tup.injEq, reduceCtorEq, false_or, or_false, exists_eq_left'])
  refine compW_mp (fun p => DV.str p.2) (look_loc hm ▸ rfl) (fun p _ kk h => ?_) ?_
  · (try simp! only [stepD])
    exact h
  · have e : (stepsOf sh rd).map (fun p => DV.str p.2) = ((stepsOf sh rd).map (·.2)).map DV.str := by rw [List.map_map]; rfl
    (try simp! only [DV.lst.injEq, DV.tup.injEq, reduceCtorEq, false_or, or_false, exists_eq_left', List.append_nil, e, ← List.map_append])
    refine ⟨by simp only [List.length_map, List.length_append]; exact Nat.le_trans (m := 16) (by omega) (by decide), srtOk_strs _, ?_⟩
    (try simp! only [sort_strs])
    exact hq
def validL (rows : List Row) : List S → List (Nat × S) → Bool
  | _, [] => true
  | st, (n, x) :: t => stepAt rows st n x && validL rows (st ++ [x]) t
def validFromS : PSp := fun ds Q _ => ∃ sh rd l, ds = [shD sh, strT rd, .lst (l.map stepD)] ∧ ShOk sh ∧ rd.length ≤ 100 ∧ l.length ≤ 1000 ∧ Q (.bl (validL sh.rows rd l))
theorem d_valid_from (g : GP4 G) : ∀ ds Q E, validFromS ds Q E → rdF G 5 B_valid_from ds Mu.nil (fun d _ => Q d) (fun x _ => E x) := by
  rintro ds Q E ⟨sh, rd, l, rfl, ok, hr, hl, hq⟩
  (simp only [rdF, B_valid_from, List.map_cons, List.map_nil, List.length_cons, List.length_nil, Nat.zero_add, Nat.reduceAdd, Nat.reduceSub, List.replicate_succ, List.replicate_zero, List.cons_append, List.nil_append]; rw [O.ssCons])
  (try simp! only [strT])
  intro a _
  ((try dsimp only); rw [B_valid_from_t1, O.ssCons]; simp! only)
  refine forW_map (f := stepD) (fun done r m => ∃ w, r = [some (shD sh), some (.tup (rd.map DV.str)), some (.lst (l.map stepD)), some (.loc a), w] ∧ m = Mu.nil.put a (.lst ((rd ++ done.map (·.2)).map DV.str)) ∧ ∀ t, l = done ++ t → validL sh.rows rd l = validL sh.rows (rd ++ done.map (·.2)) t) ⟨none, rfl, by simp, fun t h => by rw [h]; simp⟩ ?_ ?_
  · rintro done ⟨n, x⟩ rest r m e ⟨w, rfl, rfl, hv⟩ K hK
    refine ⟨trivial, ?_⟩
    have hd : done.length ≤ 1000 := by
      have := congrArg List.length e
      simp only [List.length_append, List.length_cons] at this
      omega
    have la : look (Mu.nil.put a (.lst ((rd ++ done.map (·.2)).map DV.str))) (.loc a) = .lst ((rd ++ done.map (·.2)).map DV.str) := look_loc put_same
    have hv := hv _ e
    simp only [validL] at hv
    (try simp! only)
    ((try dsimp only); rw [B_valid_from_b1, O.ssCons]; simp! only [callP g.isStep, la, look_shD, il_shD, stepD])
    refine ⟨sh, _, n, x, rfl, ok, ?_⟩
    cases hb : stepAt sh.rows (rd ++ done.map (fun p : Nat × S => p.2)) n x with
    | false =>
      simp only [hb, Bool.false_and] at hv
      (try simp! only [hb, Bool.not_false, B_valid_from_b2, rdSs])
      rw [hv] at hq
      exact hq
    | true =>
      simp only [hb, Bool.true_and] at hv
      (try simp! only [hb, Bool.not_true])
      ((try dsimp only); rw [B_valid_from_b1_t1, O.ssCons]; simp! only [la])
      refine ⟨_, put_same, by simp only [List.length_map, List.length_append]; exact Nat.lt_of_le_of_lt (m := 1100) (by omega) (by decide), ?_⟩
      refine hK _ _ ⟨_, rfl, ?_, fun t h => ?_⟩
      · funext c
        unfold Mu.put
        by_cases h : c = a <;> simp [h]
      · rw [hv]
        have : rest = t := by
          rw [e] at h
          simpa using h
        rw [this]
        simp
  · rintro r m ⟨w, rfl, rfl, hv⟩
    refine ⟨trivial, ?_⟩
    ((try dsimp only); rw [B_valid_from_t2, O.ssCons]; simp! only)
    rw [hv [] (by simp)] at hq
    exact hq
def checkStepsS : PSp := fun ds Q E => ∃ sh v l, ds = [shD sh, v, .lst (l.map stepD)] ∧ ShOk sh ∧ vOk v ∧ l.length ≤ 1000 ∧ (isPartB sh.names v = false → E ⟨4, v⟩) ∧ (∀ rd, v = strT rd → isPartB sh.names v = true → Q (.bl (validL sh.rows rd l)))
structure GP5 (G : Nat → Option Fn) : Prop extends GP4 G where
  reached : G 15 = some (.pure reachedS)
  validFrom : G 11 = some (.pure validFromS)
theorem d_check_steps (g : GP5 G) : ∀ ds Q E, checkStepsS ds Q E → rdF G 3 B_check_steps ds Mu.nil (fun d _ => Q d) (fun x _ => E x) := by
  rintro ds Q E ⟨sh, v, l, rfl, ok, hv, hl, he, hq⟩
  (simp only [rdF, B_check_steps, List.map_cons, List.map_nil, List.length_cons, List.length_nil, Nat.zero_add, Nat.reduceAdd, Nat.reduceSub, List.replicate_succ, List.replicate_zero, List.cons_append, List.nil_append]; rw [O.ssCons])
  (try simp! only [callP g.checkReadings, hv.look, hv.nl, look_shD, il_shD])
  refine ⟨sh, v, rfl, hv, fun hp => ?_, he⟩
  obtain ⟨rd, rfl, hrf⟩ := isPart_inv hp
  ((try dsimp only); rw [B_check_steps_t1, O.ssCons]; simp! only [callP g.validFrom, look_shD, il_shD, strT])
  exact ⟨sh, rd, l, rfl, ok, Nat.le_trans (part_len hrf) (Nat.le_trans ok.n8 (by decide)), hl, hq rd rfl hp⟩
def alwaysS : PSp := fun ds Q E => ∃ sh v x, ds = [shD sh, v, .str x] ∧ ShOk sh ∧ vOk v ∧ (isPartB sh.names v = false → E ⟨4, v⟩) ∧ (∀ rd, v = strT rd → isPartB sh.names v = true → (x ∉ sh.names → E ⟨2, .str x⟩) ∧ (x ∈ sh.names → Q (.bl (decide (x ∈ reachedL sh rd)))))
theorem d_always (g : GP5 G) : ∀ ds Q E, alwaysS ds Q E → rdF G 3 B_always ds Mu.nil (fun d _ => Q d) (fun x _ => E x) := by
  rintro ds Q E ⟨sh, v, x, rfl, ok, hv, he, hq⟩
  (simp only [rdF, B_always, List.map_cons, List.map_nil, List.length_cons, List.length_nil, Nat.zero_add, Nat.reduceAdd, Nat.reduceSub, List.replicate_succ, List.replicate_zero, List.cons_append, List.nil_append]; rw [O.ssCons])
  (try simp! only [callP g.checkReadings, hv.look, hv.nl, look_shD, il_shD])
  refine ⟨sh, v, rfl, hv, fun hp => ?_, he⟩
  obtain ⟨rd, rfl, hrf⟩ := isPart_inv hp
  have hq := hq rd rfl hp
  ((try dsimp only); rw [B_always_t1, O.ssCons]; simp! only [callP g.checkName, look_shD, il_shD])
  refine ⟨sh, x, rfl, fun hx => ?_, fun hx => hq.1 hx⟩
  ((try dsimp only); rw [B_always_t2, O.ssCons]; simp! only [callP g.reached, look_shD, il_shD, strT])
  refine ⟨sh, _, rfl, ok, vOk_strT, fun h => ?_, fun rd' e h => ?_⟩
  · rw [show strT rd = .tup (rd.map DV.str) from rfl] at hp
    rw [hp] at h
    cases h
  · have := strT_inj e
    subst this
    (try simp! only [strT])
    exact hq.2 hx
end PX

set_option linter.all false
set_option maxRecDepth 10000
namespace PX
open DL TB
variable {G : Nat → Option Fn}
/-- the steps left behind d tries, from the place n downwards -/
def prD (rows : List Row) (rd : List S) (n : Nat) : Nat → List (Nat × S) → List (Nat × S)
  | 0, f => f
  | d + 1, f => let q := prD rows rd n d f
    if validL rows rd (q.eraseIdx (n - d)) = true then q.eraseIdx (n - d) else q
def stepsTo (sh : Sh) (rd : List S) (x : S) : List (Nat × S) :=
  let f := (stepsOf sh rd).take (((stepsOf sh rd).findIdx fun p => decide (p.2 = x)) + 1)
  prD sh.rows rd (f.length - 2) (f.length - 1) f
theorem prD_len (rows : List Row) (rd : List S) (n : Nat) (f : List (Nat × S)) : ∀ d, (prD rows rd n d f).length ≤ f.length
  | 0 => Nat.le_refl _
  | d + 1 => by
    have := prD_len rows rd n f d
    simp only [prD]
    split
    · exact Nat.le_trans (List.length_eraseIdx_le _ _) this
    · exact this
theorem prD_len2 (rows : List Row) (rd : List S) (n : Nat) (f : List (Nat × S)) : ∀ d, f.length - d ≤ (prD rows rd n d f).length
  | 0 => Nat.le_refl _
  | d + 1 => by
    have := prD_len2 rows rd n f d
    simp only [prD]
    split
    · rw [List.length_eraseIdx]
      split <;> omega
    · omega
theorem cut_take {α : Type} (xs : List α) (i : Nat) : cut xs none (some (i : Int)) = xs.take i := by
  unfold cut sIx
  simp only [List.drop_zero, Nat.sub_zero]
  rw [if_neg (by omega)]
  simp only [Int.toNat_natCast]
  by_cases h : i ≤ xs.length
  · rw [Nat.min_eq_left h]
  · rw [Nat.min_eq_right (by omega), List.take_of_length_le (Nat.le_refl _), List.take_of_length_le (by omega)]
theorem cut_drop {α : Type} (xs : List α) (i : Nat) : cut xs (some (i : Int)) none = xs.drop i := by
  unfold cut sIx
  simp only
  rw [if_neg (by omega)]
  simp only [Int.toNat_natCast]
  by_cases h : i ≤ xs.length
  · rw [Nat.min_eq_left h, List.take_of_length_le (by simp)]
  · rw [Nat.min_eq_right (by omega), List.drop_of_length_le (Nat.le_refl _), List.drop_of_length_le (by omega)]
    simp
def stepsToS : FSp := fun ds m k e => ∃ sh v x, ds = [shD sh, v, .str x] ∧ ShOk sh ∧ vOk v ∧ (isPartB sh.names v = false → e ⟨4, v⟩ m) ∧
  (∀ rd, v = strT rd → isPartB sh.names v = true → (x ∉ sh.names → e ⟨2, .str x⟩ m) ∧ (x ∈ sh.names →
    (x ∈ rd → ∀ a m', m a = none → Kp m m' → m' a = some (.lst []) → k (.loc a) m') ∧
    (x ∉ rd → (x ∉ (stepsOf sh rd).map (·.2) → ∀ m', Kp m m' → e ⟨12, .str x⟩ m') ∧ (x ∈ (stepsOf sh rd).map (·.2) → ∀ a m', m a = none → Kp m m' → m' a = some (.lst ((stepsTo sh rd x).map stepD)) → k (.loc a) m'))))
theorem find_map {l : List (Nat × S)} {x : S} (h : x ∈ l.map (·.2)) : (l.map fun p => DV.str p.2).findIdx? (fun z => eqv z (.str x)) = some (l.findIdx fun p => decide (p.2 = x)) := by
  rw [List.findIdx?_map]
  have e : ((fun z => eqv z (.str x)) ∘ fun p : Nat × S => DV.str p.2) = fun p : Nat × S => decide (p.2 = x) := by
    funext p
    show eqv (.str p.2) (.str x) = _
    rw [eqv_strD]
  rw [e]
  obtain ⟨p, hp, hx⟩ := List.mem_map.mp h
  rw [List.findIdx?_eq_some_of_exists ⟨p, hp, by simp [hx]⟩]
theorem d_steps_to (g : GP5 G) : ∀ ds m k e, stepsToS ds m k e → rdF G 7 B_steps_to ds m k e := by
  rintro ds m k e ⟨sh, v, x, rfl, ok, hv, he, hk⟩
  (simp only [rdF, B_steps_to, List.map_cons, List.map_nil, List.length_cons, List.length_nil, Nat.zero_add, Nat.reduceAdd, Nat.reduceSub, List.replicate_succ, List.replicate_zero, List.cons_append, List.nil_append]; rw [O.ssCons])
  (try simp! only [callP g.checkReadings, hv.look, hv.nl, look_shD, il_shD])
  refine ⟨sh, v, rfl, hv, fun hp => ?_, he⟩
  obtain ⟨rd, rfl, hrf⟩ := isPart_inv hp
  have hl : rd.length ≤ 8 := Nat.le_trans (part_len hrf) ok.n8
  have hs := stepsOf_len ok rd
  have hk := hk rd rfl hp
  ((try dsimp only); rw [B_steps_to_t1, O.ssCons]; simp! only [callP g.checkName, look_shD, il_shD])
  refine ⟨sh, x, rfl, fun hx => ?_, fun hx => hk.1 hx⟩
  have hk := hk.2 hx
  ((try dsimp only); rw [B_steps_to_t2, O.ssCons]; simp! only [strT])
  by_cases hr : x ∈ rd
  · rw [if_pos (by simp [hr])]
    (try simp! only [B_steps_to_b1, rdSs])
    intro a ha
    exact hk.1 hr a _ ha (Kp.rfl'.put ha) put_same
  rw [if_neg (by simp [hr])]
  have hk := hk.2 hr
  ((try dsimp only); rw [B_steps_to_t3, O.ssCons]; simp! only [callG g.stepsFrom])
  refine ⟨sh, _, rfl, ok, vOk_strT, fun h => ?_, fun rd' e' h a m1 ha kp hm => ?_⟩
  · have hp' : isPartB sh.names (.tup (rd.map DV.str)) = true := hp
    rw [hp'] at h
    cases h
  have := strT_inj e'
  subst this
  have em : (stepsOf sh rd).map (fun p => DV.str p.2) = ((stepsOf sh rd).map (·.2)).map DV.str := by rw [List.map_map]; rfl
  ((try dsimp only); rw [B_steps_to_t4, O.ssCons]; simp! only [look_loc hm])
  refine compW_mp (fun p => DV.str p.2) (look_loc hm ▸ rfl) (fun p _ kk h => ?_) ?_
  · (try simp! only [stepD])
    exact h
  (try simp! only [em])
  by_cases hx2 : x ∈ (stepsOf sh rd).map (·.2)
  · rw [if_neg (by simp only [hx2]; decide)]
    have hk := hk.2 hx2
    ((try dsimp only); rw [B_steps_to_t5, O.ssCons]; simp! only [look_loc hm])
    refine compW_mp (fun p => DV.str p.2) (look_loc hm ▸ rfl) (fun p _ kk h => ?_) ?_
    · (try simp! only [stepD])
      exact h
    (try simp! only [indexD])
    refine ⟨⟨by rw [em, plains_strs], by rw [em, depths_strs]; decide⟩, _, find_map hx2, ?_⟩
    obtain ⟨f0, hf0⟩ : ∃ f0, f0 = (stepsOf sh rd).take (((stepsOf sh rd).findIdx fun p => decide (p.2 = x)) + 1) := ⟨_, rfl⟩
    have hk : ∀ a m', m a = none → Kp m m' → m' a = some (.lst ((prD sh.rows rd (f0.length - 2) (f0.length - 1) f0).map stepD)) → k (.loc a) m' := by rw [hf0]; exact hk
    have hf8 : f0.length ≤ 8 := by
      rw [hf0, List.length_take]
      omega
    have e0 : cut ((stepsOf sh rd).map stepD) none (some (((stepsOf sh rd).findIdx fun p => decide (p.2 = x) : Nat) + 1 : Int)) = f0.map stepD := by
      have := cut_take ((stepsOf sh rd).map stepD) (((stepsOf sh rd).findIdx fun p => decide (p.2 = x)) + 1)
      rw [← List.map_take, ← hf0] at this
      exact this
    (try simp! only [look_loc hm, e0])
    intro b hb
    have hmb : m b = none := by
      cases h : m b with
      | none => rfl
      | some o => rw [kp b o h] at hb; cases hb
    have kp1 : Kp m (m1.put b (.lst (f0.map stepD))) := kp.put hmb
    have lb := look_loc (put_same (m := m1) (a := b) (o := .lst (f0.map stepD)))
    clear hm kp em
    ((try dsimp only); rw [B_steps_to_t6, O.ssCons]; simp! only [lb, List.length_map])
    refine ⟨_, _, rfl, rfl, ⟨by omega, by omega, by omega, by omega⟩, ?_⟩
    have ec : ((f0.length : Int) - 2 - -1).toNat = f0.length - 1 := by omega
    rw [ec]
    unfold rangeL
    refine forW_map (f := fun j : Nat => DV.int ((f0.length : Int) - 2 + (j : Int) * (-1))) (fun done r m' => ∃ c w w2, r = [some (shD sh), some (.tup (rd.map DV.str)), some (.str x), some (.loc c), w, w2, none] ∧ m c = none ∧ Kp m m' ∧ m' c = some (.lst ((prD sh.rows rd (f0.length - 2) done.length f0).map stepD))) ⟨b, none, none, rfl, hmb, kp1, put_same⟩ ?_ ?_
    · rintro done j rest r m' e1 ⟨c, w, w2, rfl, hc, kp, hm⟩ K hK
      obtain ⟨hj, hj2⟩ := range_split e1
      subst hj
      refine ⟨trivial, ?_⟩
      (try simp! only)
      have ei : (f0.length : Int) - 2 + (done.length : Int) * (-1) = ((f0.length - 2 - done.length : Nat) : Int) := by omega
      rw [ei]
      have hl1 := prD_len sh.rows rd (f0.length - 2) f0 done.length
      ((try dsimp only); rw [B_steps_to_b3, O.ssCons]; simp! only [look_loc hm])
      have ek : ((f0.length - 2 - done.length : Nat) : Int) + 1 = ((f0.length - 2 - done.length + 1 : Nat) : Int) := by omega
      rw [ek]
      simp only [cut_take, cut_drop, O.binAL, ← List.map_take, ← List.map_drop, ← List.map_append, ← List.eraseIdx_eq_take_drop_succ]
      refine ⟨by simp only [List.length_map, List.length_take, List.length_drop]; exact Nat.le_trans (m := 16) (by omega) (by decide), ?_⟩
      intro d hd
      have hmd : m d = none := by
        cases h : m d with
        | none => rfl
        | some o => rw [kp d o h] at hd; cases hd
      have hcd : c ≠ d := ne_of_some hm hd
      have ld := look_loc (put_same (m := m') (a := d) (o := .lst (((prD sh.rows rd (f0.length - 2) done.length f0).eraseIdx (f0.length - 2 - done.length)).map stepD)))
      ((try dsimp only); rw [B_steps_to_b3_t1, O.ssCons]; simp! only [callP g.validFrom, ld, look_shD, il_shD])
      refine ⟨sh, rd, _, rfl, ok, Nat.le_trans hl (by decide), Nat.le_trans (List.length_eraseIdx_le _ _) (Nat.le_trans hl1 (Nat.le_trans hf8 (by decide))), ?_⟩
      cases hv : validL sh.rows rd ((prD sh.rows rd (f0.length - 2) done.length f0).eraseIdx (f0.length - 2 - done.length)) with
      | true =>
        (try simp! only [B_steps_to_b4, rdSs])
        refine hK _ _ ⟨d, _, _, rfl, hmd, kp.put hmd, ?_⟩
        rw [put_same, List.length_append]
        simp only [List.length_cons, List.length_nil, Nat.zero_add, prD, hv, if_true]
      | false =>
        (try simp! only)
        refine hK _ _ ⟨c, _, _, rfl, hc, kp.put hmd, ?_⟩
        rw [put_ne hcd, hm, List.length_append]
        simp only [List.length_cons, List.length_nil, Nat.zero_add, prD, hv, Bool.false_eq_true, if_false]
    · rintro r m' ⟨c, w, w2, rfl, hc, kp, hm⟩
      refine ⟨trivial, ?_⟩
      ((try dsimp only); rw [B_steps_to_t7, O.ssCons]; simp! only)
      rw [List.length_range] at hm
      exact hk c m' hc kp hm
  · rw [if_pos (by simp only [hx2]; decide)]
    (try simp! only [B_steps_to_b2, rdSs])
    exact hk.1 hx2 _ kp
end PX

set_option linter.all false
set_option maxRecDepth 10000
namespace PX
open DL TB
variable {G : Nat → Option Fn}
abbrev letters : S := txt1
abbrev digits : S := txt2
def okC (c : Nat) : Bool := decide (c ∈ letters) || decide (c ∈ digits)
def validN (s : S) : Bool := match s with
  | [] => false
  | c :: r => decide (r.length ≤ 5) && decide (c ∈ letters) && (c :: r).all okC
def validNameS : PSp := fun ds Q _ => ∃ s : S, ds = [.str s] ∧ s.length ≤ LINE ∧ Q (.bl (validN s))
theorem d_valid_name : ∀ ds Q E, validNameS ds Q E → rdF G 2 B_valid_name ds Mu.nil (fun d _ => Q d) (fun x _ => E x) := by
  rintro ds Q E ⟨s, rfl, hl, hq⟩
  (simp only [rdF, B_valid_name, List.map_cons, List.map_nil, List.length_cons, List.length_nil, Nat.zero_add, Nat.reduceAdd, Nat.reduceSub, List.replicate_succ, List.replicate_zero, List.cons_append, List.nil_append]; rw [O.ssCons])
  (try simp! only)
  refine ⟨hl, ?_⟩
  cases h0 : s with
  | nil =>
    subst h0
    (try simp! only [B_valid_name_b1, rdSs, validN])
    simpa [validN, rdSs, rdS, rdE] using hq
  | cons c r =>
    rw [← h0]
    have h0' : s.length = r.length + 1 := by rw [h0]; rfl
    rw [if_pos (by simp; omega)]
    by_cases h6 : r.length ≤ 5
    · rw [if_neg (by simp; omega)]
      refine ⟨hl, c, by rw [h0]; exact at0, ?_⟩
      by_cases hc : c ∈ txt1
      · rw [if_neg (by simp [hc])]
        ((try dsimp only); rw [B_valid_name_t1, O.ssCons]; simp! only)
        refine ⟨fun s' e => e ▸ hl, ?_⟩
        have hv0 : validN s = s.all okC := by rw [h0]; simp [validN, h6, hc]
        refine forW_map (fun done r' m' => m' = Mu.nil ∧ (∃ v, r' = [some (.str s), v]) ∧ done.all okC = true) ⟨rfl, ⟨none, rfl⟩, rfl⟩ ?_ ?_
        · rintro pre c' post' r' m' e1 ⟨rfl, ⟨v, rfl⟩, hp⟩ K hK
          refine ⟨trivial, ?_⟩
          (try simp! only)
          ((try dsimp only); rw [B_valid_name_b2, O.ssCons]; simp! only)
          have hv : validN s = (pre ++ c' :: post').all okC := by rw [hv0, e1]
          by_cases h1 : c' ∈ txt1
          · rw [if_neg (by simp [h1])]
            exact hK _ _ ⟨rfl, ⟨_, rfl⟩, by simp [hp, okC, h1]⟩
          · rw [if_pos (by simp [h1])]
            by_cases h2 : c' ∈ txt2
            · rw [if_neg (by simp [h2])]
              exact hK _ _ ⟨rfl, ⟨_, rfl⟩, by simp [hp, okC, h2]⟩
            · rw [if_pos (by simp [h2])]
              (try simp! only [B_valid_name_b3, rdSs])
              rw [hv] at hq
              have : (pre ++ c' :: post').all okC = false := by simp [okC, h1, h2]
              rw [this] at hq
              exact hq
        · rintro r' m' ⟨rfl, ⟨v, rfl⟩, hp⟩
          refine ⟨trivial, ?_⟩
          ((try dsimp only); rw [B_valid_name_t2, O.ssCons]; simp! only)
          have hv : validN s = true := by rw [hv0]; exact hp
          rw [hv] at hq
          exact hq
      · rw [if_pos (by simp [hc])]
        have : validN s = false := by rw [h0]; simp [validN, hc]
        rw [this] at hq
        (try simp! only [B_valid_name_b1, rdSs])
        exact hq
    · rw [if_pos (by simp; omega)]
      have : validN s = false := by rw [h0]; simp [validN, h6]
      rw [this] at hq
      (try simp! only [B_valid_name_b1, rdSs])
      exact hq
/-- unknowns that are as they must be -/
def checkUnknownsS : PSp := fun ds Q _ => ∃ l : List S, ds = [.lst (l.map DV.str)] ∧ 1 ≤ l.length ∧ l.length ≤ 8 ∧ (∀ x ∈ l, validN x = true) ∧ l.Nodup ∧ Q .non
theorem valid_len {s : S} (h : validN s = true) : s.length ≤ 6 := by
  cases s with
  | nil => cases h
  | cons c r =>
    simp only [validN, Bool.and_eq_true, decide_eq_true_eq] at h
    simp only [List.length_cons]
    omega
theorem d_check_unknowns (h1 : G 1 = some (.pure validNameS)) : ∀ ds Q E, checkUnknownsS ds Q E → rdF G 3 B_check_unknowns ds Mu.nil (fun d _ => Q d) (fun x _ => E x) := by
  rintro ds Q E ⟨l, rfl, hl, hl8, hv, hnd, hq⟩
  (simp only [rdF, B_check_unknowns, List.map_cons, List.map_nil, List.length_cons, List.length_nil, Nat.zero_add, Nat.reduceAdd, Nat.reduceSub, List.replicate_succ, List.replicate_zero, List.cons_append, List.nil_append]; rw [O.ssCons])
  (try simp! only [List.length_map])
  refine iteT (by simp; omega) (iteF (by simp; omega) ?_)
  ((try dsimp only); rw [B_check_unknowns_t1, O.ssCons]; simp! only)
  intro a ha
  ((try dsimp only); rw [B_check_unknowns_t2, O.ssCons]; simp! only)
  refine forW_map (f := DV.str) (fun done r m => ∃ w, r = [some (.lst (l.map DV.str)), some (.loc a), w] ∧ m = Mu.nil.put a (.lst (done.map DV.str))) ⟨none, rfl, rfl⟩ ?_ ?_
  · rintro done x rest r m e1 ⟨w, rfl, rfl⟩ K hK
    refine ⟨trivial, ?_⟩
    have hx : x ∈ l := by rw [e1]; simp
    have hd : done.length ≤ 8 := by
      have := congrArg List.length e1
      simp only [List.length_append, List.length_cons] at this
      omega
    have hnx : x ∉ done := by
      rw [e1] at hnd
      rw [List.nodup_append] at hnd
      exact fun h => hnd.2.2 x h x List.mem_cons_self rfl
    have la := look_loc (put_same (m := Mu.nil) (a := a) (o := .lst (done.map DV.str)))
    (try simp! only)
    ((try dsimp only); rw [B_check_unknowns_b2, O.ssCons]; simp! only [callP h1])
    refine ⟨x, rfl, Nat.le_trans (valid_len (hv x hx)) (by decide), ?_⟩
    (try simp! only [hv x hx, Bool.not_true])
    ((try dsimp only); rw [B_check_unknowns_b2_t1, O.ssCons]; simp! only [la])
    refine iteF (by simp [hnx]) ?_
    ((try dsimp only); rw [B_check_unknowns_b2_t2, O.ssCons]; simp! only [la])
    refine ⟨_, put_same, by simp only [List.length_map]; exact Nat.lt_of_le_of_lt hd (by decide), hK _ _ ⟨_, rfl, ?_⟩⟩
    funext c
    unfold Mu.put
    by_cases h : c = a <;> simp [h]
  · rintro r m ⟨w, rfl, rfl⟩
    refine ⟨trivial, ?_⟩
    (try simp! only)
    exact hq
def isRowB (names : List S) (r : Row) : Bool := isPartB names (strT r.1) && isPartB names (strT r.2) && !r.1.any fun x => decide (x ∈ r.2)
def isRowS : PSp := fun ds Q _ => ∃ names r, ds = [strT names, rowD r] ∧ Q (.bl (isRowB names r))
theorem d_is_row (h0 : G 0 = some (.pure isPartS)) : ∀ ds Q E, isRowS ds Q E → rdF G 3 B_is_row ds Mu.nil (fun d _ => Q d) (fun x _ => E x) := by
  rintro ds Q E ⟨names, r, rfl, hq⟩
  (simp only [rdF, B_is_row, rowD, List.map_cons, List.map_nil, List.length_cons, List.length_nil, Nat.zero_add, Nat.reduceAdd, Nat.reduceSub, List.replicate_succ, List.replicate_zero, List.cons_append, List.nil_append]; rw [O.ssCons])
  (try simp! only [Bool.not_true])
  refine iteF (by decide) ?_
  ((try dsimp only); rw [B_is_row_t1, O.ssCons]; simp! only [callP h0, strT])
  refine ⟨names, _, rfl, vOk_strT, ?_⟩
  cases ha : isPartB names (strT r.1) with
  | false =>
    rw [show isRowB names r = false by simp [isRowB, ha]] at hq
    unfold strT at ha
    (try simp! only [ha, Bool.not_false, B_is_row_b2, rdSs])
    exact hq
  | true =>
    have ha' : isPartB names (.tup (r.1.map DV.str)) = true := ha
    (try simp! only [ha', Bool.not_true, callP h0])
    refine ⟨names, _, rfl, vOk_strT, ?_⟩
    cases hb : isPartB names (strT r.2) with
    | false =>
      rw [show isRowB names r = false by simp [isRowB, hb]] at hq
      unfold strT at hb
      (try simp! only [hb, Bool.not_false, B_is_row_b2, rdSs])
      exact hq
    | true =>
      have hb' : isPartB names (.tup (r.2.map DV.str)) = true := hb
      (try simp! only [hb', Bool.not_true])
      ((try dsimp only); rw [B_is_row_t2, O.ssCons]; simp! only)
      refine compW_mp (fun x => DV.bl (decide (x ∈ r.2))) trivial (fun x _ kk h => ?_) ?_
      · (try simp! only)
        exact h
      · refine ⟨_, bls_map _, ?_⟩
        rw [any_idm]
        rw [show isRowB names r = !r.1.any fun x => decide (x ∈ r.2) by simp [isRowB, ha, hb]] at hq
        exact hq
/-! ### a shape is made -/
structure GP6 (G : Nat → Option Fn) : Prop extends GP5 G where
  checkUnknowns : G 3 = some (.pure checkUnknownsS)
  isRow : G 4 = some (.pure isRowS)
def shF (names : List S) (rows : List Row) : List (S × DV) := [(nmN, strT names), (nmL, .tup (rows.map rowD))]
/-- Shape(unknowns, rows) of what is as it must be -/
def MkOk (m : Mu) (u w : DV) (l : List S) (rows : List Row) : Prop := look m u = .lst (l.map DV.str) ∧ look m w = .lst (rows.map rowD) ∧ 1 ≤ l.length ∧ l.length ≤ 8 ∧ (∀ x ∈ l, validN x = true) ∧ l.Nodup ∧ rows.length ≤ 8 ∧ ∀ r ∈ rows, isRowB (sortS l) r = true
def initS : FSp := fun ds m k _ => ∃ a u w l rows, ds = [.loc a, u, w] ∧ m a = some (.ins 0 []) ∧ u ≠ .loc a ∧ w ≠ .loc a ∧ MkOk m u w l rows ∧ k .non (m.put a (.ins 0 (shF (sortS l) rows)))
def mkS : FSp := fun ds m k _ => ∃ u w l rows, ds = [u, w] ∧ MkOk m u w l rows ∧ ∀ a, m a = none → k (.loc a) (m.put a (.ins 0 (shF (sortS l) rows)))
theorem look_put {m : Mu} {a : Nat} {o : DO} {d : DV} (h : d ≠ .loc a) : look (m.put a o) d = look m d := by
  cases d with
  | loc b =>
    have hb : b ≠ a := fun e => h (by rw [e])
    unfold look
    simp only [put_ne hb]
  | _ => rfl
theorem put_put {m : Mu} {a : Nat} {o o' : DO} : (m.put a o).put a o' = m.put a o' := by
  funext c
  unfold Mu.put
  by_cases h : c = a <;> simp [h]
theorem d_init (g : GP6 G) : ∀ ds m k e, initS ds m k e → rdF G 4 B_Shape___init__ ds m k e := by
  rintro ds m k e ⟨a, u, w, l, rows, rfl, hm, hu, hw, ⟨lu, lw, h1, h8, hv, hnd, hr8, hrow⟩, hk⟩
  (simp only [rdF, B_Shape___init__, List.map_cons, List.map_nil, List.length_cons, List.length_nil, Nat.zero_add, Nat.reduceAdd, Nat.reduceSub, List.replicate_succ, List.replicate_zero, List.cons_append, List.nil_append]; rw [O.ssCons])
  (try simp! only [callP g.checkUnknowns, lu])
  refine ⟨l, rfl, h1, h8, hv, hnd, ?_⟩
  refine ⟨fun _ => rfl, ?_⟩
  ((try dsimp only); rw [B_Shape___init___t1, O.ssCons]; simp! only [lu, sort_strs])
  refine ⟨srtOk_strs _, [], hm, by simp, ?_⟩
  ((try dsimp only); rw [B_Shape___init___t2, O.ssCons]; simp! only [look_put hw, lw, List.length_map])
  refine iteF (by simp; omega) ?_
  ((try dsimp only); rw [B_Shape___init___t3, O.ssCons]; simp! only [look_put hw, lw])
  have la := look_locI (put_same (m := m) (a := a) (o := .ins 0 [(nmN, strT (sortS l))]))
  refine forW_map (f := rowD) (fun done r m' => ∃ v, r = [some (.loc a), some u, some w, v] ∧ m' = m.put a (.ins 0 [(nmN, strT (sortS l))])) ⟨none, rfl, rfl⟩ ?_ ?_
  · rintro done x rest r m' e1 ⟨v, rfl, rfl⟩ K hK
    have hx : x ∈ rows := by rw [e1]; simp
    refine ⟨by rw [look_put hw, lw]; rfl, ?_⟩
    (try simp! only)
    ((try dsimp only); rw [B_Shape___init___b2, O.ssCons]; simp! only [la, callP g.isRow])
    refine ⟨_, rfl, ?_⟩
    (try simp! only [strT, look_tup, rowD, il_shD])
    refine ⟨sortS l, x, rfl, ?_⟩
    (try simp! only [hrow x hx, Bool.not_true])
    exact hK _ _ ⟨_, rfl, rfl⟩
  · rintro r m' ⟨v, rfl, rfl⟩
    refine ⟨by rw [look_put hw, lw]; rfl, ?_⟩
    ((try dsimp only); rw [B_Shape___init___t4, O.ssCons]; simp! only [look_put hw, lw])
    refine ⟨_, put_same, by simp, ?_⟩
    rw [put_put]
    exact hk
theorem ne_free {m : Mu} {a : Nat} {u : DV} {xs : List DV} (h : look m u = .lst xs) (ha : m a = none) : u ≠ .loc a := fun e => by
  subst e
  unfold look at h
  simp only [ha] at h
  cases h
theorem mk_imp_Shape : ∀ ds m kk e, mkS ds m kk e → ∀ a, m a = none → initS (.loc a :: ds) (m.put a (.ins 0 [])) (fun d m' => d = .non ∧ kk (.loc a) m') e := by
  rintro ds m kk e ⟨u, w, l, rows, rfl, ⟨h1, h2, h3, h4, h5, h6, h7, h8⟩, hk⟩ a ha
  have n1 := ne_free h1 ha
  have n2 := ne_free h2 ha
  refine ⟨a, u, w, l, rows, rfl, put_same, n1, n2, ⟨by rw [look_put n1]; exact h1, by rw [look_put n2]; exact h2, h3, h4, h5, h6, h7, h8⟩, rfl, ?_⟩
  rw [put_put]
  exact hk a ha
end PX

set_option linter.all false
set_option maxRecDepth 10000
namespace LX
open DL TB PX
variable {G : Nat → Option Fn}
/-- the law's state: where it stands, where its cells stand, how often it was asked at most -/
def StB (m : Mu) (a b n : Nat) : Prop := a ≠ b ∧ ∃ (p : Int) (j : Nat) (cells : List Int), j ≤ n ∧ m a = some (.lst [.loc b, .int p, .int (j : Int)]) ∧ m b = some (.lst (cells.map .int)) ∧ cells.length ≤ 100
/-- behind some draws -/
def Dr (m m' : Mu) (a b n : Nat) : Prop := StB m' a b n ∧ ∀ c o, c ≠ a → c ≠ b → m c = some o → m' c = some o
theorem StB.mono {m : Mu} {a b n n' : Nat} (h : StB m a b n) (hn : n ≤ n') : StB m a b n' := by
  obtain ⟨h1, p, j, cells, h2, h3⟩ := h
  exact ⟨h1, p, j, cells, by omega, h3⟩
theorem Dr.mono {m m' : Mu} {a b n n' : Nat} (h : Dr m m' a b n) (hn : n ≤ n') : Dr m m' a b n' := ⟨h.1.mono hn, h.2⟩
theorem Dr.trans {m m1 m2 : Mu} {a b n n' : Nat} (h : Dr m m1 a b n) (h' : Dr m1 m2 a b n') : Dr m m2 a b n' := ⟨h'.1, fun c o h1 h2 h3 => h'.2 c o h1 h2 (h.2 c o h1 h2 h3)⟩
theorem StB.dr {m : Mu} {a b n : Nat} (h : StB m a b n) : Dr m m a b n := ⟨h, fun _ _ _ _ h => h⟩
theorem StB.put {m : Mu} {a b n c : Nat} {o : DO} (h : StB m a b n) (hc : c ≠ a) (hb : c ≠ b) : StB (m.put c o) a b n := by
  obtain ⟨h1, p, j, cells, h2, h3, h4, h5⟩ := h
  exact ⟨h1, p, j, cells, h2, by rw [put_ne (Ne.symm hc)]; exact h3, by rw [put_ne (Ne.symm hb)]; exact h4, h5⟩
theorem StB.nea {m : Mu} {a b n c : Nat} (h : StB m a b n) (hc : m c = none) : c ≠ a ∧ c ≠ b := by
  obtain ⟨h1, p, j, cells, h2, h3, h4, h5⟩ := h
  exact ⟨(ne_of_some h3 hc).symm, (ne_of_some h4 hc).symm⟩
theorem Dr.put {m m' : Mu} {a b n c : Nat} {o : DO} (h : Dr m m' a b n) (hc : m' c = none) : Dr m (m'.put c o) a b n := by
  obtain ⟨h1, h2⟩ := h.1.nea hc
  refine ⟨h.1.put h1 h2, fun d o' g1 g2 g3 => ?_⟩
  have := h.2 d o' g1 g2 g3
  rw [put_ne (ne_of_some this hc)]
  exact this
/-- what was new stays new to the old -/
theorem Dr.new {m m' : Mu} {a b n c : Nat} (h : Dr m m' a b n) (hs : StB m a b n) (hc : m' c = none) : m c = none := by
  obtain ⟨h1, h2⟩ := h.1.nea hc
  cases e : m c with
  | none => rfl
  | some o => rw [h.2 c o h1 h2 e] at hc; cases hc
def takeS : FSp := fun ds m k _ => ∃ (a b n : Nat) (l : Int), ds = [.loc a, .int l] ∧ StB m a b n ∧ n < 1000000000 ∧ 0 < l ∧ l < 1000000 ∧ ∀ r m', 0 ≤ r → r < l → Dr m m' a b (n + 1) → k (.int r) m'
theorem fmod_bd {x n : Int} (h : 0 < n) : 0 ≤ x.fmod n ∧ x.fmod n < n := by
  rw [Int.fmod_eq_emod_of_nonneg x (Int.le_of_lt h)]
  exact ⟨Int.emod_nonneg x (by omega), Int.emod_lt_of_pos x h⟩
theorem d_take : ∀ ds m k e, takeS ds m k e → rdF G 6 B_law_take ds m k e := by
  rintro ds m k e ⟨a, b, n, l, rfl, ⟨hab, p, j, cells, hj, ha, hb, hc⟩, hn, hl, hl2, hk⟩
  have lka := look_loc ha
  (simp only [rdF, B_law_take, List.map_cons, List.map_nil, List.length_cons, List.length_nil, Nat.zero_add, Nat.reduceAdd, Nat.reduceSub, List.replicate_succ, List.replicate_zero, List.cons_append, List.nil_append]; rw [O.ssCons])
  (try simp! only [lka])
  ((try dsimp only); rw [B_law_take_t1, O.ssCons]; simp! only [lka])
  refine ⟨_, 2, ha, rfl, ?_⟩
  have ha1 : (m.put a (.lst ([DV.loc b, .int p, .int (j : Int)].set 2 (.int ((j : Int) + 1))))) a = some (.lst [.loc b, .int p, .int ((j : Int) + 1)]) := by rw [put_same]; rfl
  have hb1 : (m.put a (.lst ([DV.loc b, .int p, .int (j : Int)].set 2 (.int ((j : Int) + 1))))) b = some (.lst (cells.map .int)) := by rw [put_ne (Ne.symm hab)]; exact hb
  generalize hm1 : m.put a (.lst ([DV.loc b, .int p, .int (j : Int)].set 2 (.int ((j : Int) + 1)))) = m1 at ha1 hb1
  have hk1 : ∀ c o, c ≠ a → c ≠ b → m c = some o → m1 c = some o := fun c o h1 _ h3 => by rw [← hm1, put_ne h1]; exact h3
  have lka1 := look_loc ha1
  have lkb1 := look_loc hb1
  ((try dsimp only); rw [B_law_take_t2, O.ssCons]; simp! only [lka1, lkb1, List.length_map])
  refine ⟨by split <;> omega, ?_⟩
  obtain ⟨at', hat⟩ : ∃ at', at' = p.fmod (if (cells.length : Int) > 1 then (cells.length : Int) else 1) := ⟨_, rfl⟩
  rw [← hat]
  have hat2 : 0 ≤ at' ∧ at' < if (cells.length : Int) > 1 then (cells.length : Int) else 1 := by
    rw [hat]
    exact fmod_bd (by split <;> omega)
  ((try dsimp only); rw [B_law_take_t3, O.ssCons]; simp! only)
  -- the cell
  have key : ∀ (x : Int) (idx : Bool), (idx = true → at' < cells.length) → (¬ idx → x = 0) → rdSs G B_law_take_t5 { nx := fun _ m1 => k .non m1, rt := k, bk := fun _ _ => False, ct := fun _ _ => False, ex := fun x _ m => e x m } [some (.loc a), some (.int l), some (.loc b), some (.int at'), some (.int x), none] m1 := by
    intro x idx hidx hx0
    ((try dsimp only); rw [B_law_take_t5, O.ssCons]; simp! only)
    refine ⟨⟨by decide, by decide, by decide⟩, ?_⟩
    by_cases hbig : (10 : Int) ^ (18 : Int).toNat ≤ if x < 0 then -x else x
    · refine iteT (by simpa using hbig) ?_
      have hi : idx = true := by
        cases idx with
        | true => rfl
        | false =>
          rw [hx0 (by simp)] at hbig
          exact absurd hbig (by decide)
      ((try dsimp only); rw [B_law_take_b2, O.ssCons]; simp! only)
      refine ⟨.inl ⟨by omega, by omega⟩, _, at'.toNat, hb1, idx_some hat2.1 (by rw [List.length_map]; exact hidx hi), ?_⟩
      ((try dsimp only); rw [B_law_take_b2_t1, O.ssCons]; simp! only)
      refine ⟨by omega, ?_⟩
      obtain ⟨g1, g2⟩ := fmod_bd (x := if x < 0 then -x else x) hl
      refine hk _ _ g1 g2 ⟨⟨hab, p, j + 1, cells.set at'.toNat ((if x < 0 then -x else x).fdiv l), by omega, ?_, ?_, by rw [List.length_set]; exact hc⟩, fun c o h1 h2 h3 => ?_⟩
      · rw [put_ne hab, ha1]
        simp
      · rw [put_same, List.map_set]
      · rw [put_ne h2]
        exact hk1 c o h1 h2 h3
    · refine iteF (by simpa using hbig) ?_
      ((try dsimp only); rw [B_law_take_t6, O.ssCons]; simp! only [lka1])
      refine ⟨_, 1, ha1, rfl, ?_⟩
      have ha2 : (m1.put a (.lst ([DV.loc b, .int p, .int ((j : Int) + 1)].set 1 (.int (p + 1))))) a = some (.lst [.loc b, .int (p + 1), .int ((j : Int) + 1)]) := by rw [put_same]; rfl
      have hb2 : (m1.put a (.lst ([DV.loc b, .int p, .int ((j : Int) + 1)].set 1 (.int (p + 1))))) b = some (.lst (cells.map .int)) := by rw [put_ne (Ne.symm hab)]; exact hb1
      have hk2 : ∀ c o, c ≠ a → c ≠ b → m c = some o → (m1.put a (.lst ([DV.loc b, .int p, .int ((j : Int) + 1)].set 1 (.int (p + 1))))) c = some o := fun c o h1 h2 h3 => by rw [put_ne h1]; exact hk1 c o h1 h2 h3
      generalize m1.put a (.lst ([DV.loc b, .int p, .int ((j : Int) + 1)].set 1 (.int (p + 1)))) = m2 at ha2 hb2 hk2
      have lka2 := look_loc ha2
      obtain ⟨c1, c2⟩ := fmod_bd (x := x) (n := 2147483647) (by decide)
      ((try dsimp only); rw [B_law_take_t7, O.ssCons]; simp! only [lka2])
      refine ⟨by decide, .inl (.inr (by decide)), .inl (.inr (by decide)), ⟨by decide, by decide, ?_⟩, by decide, ?_⟩
      · have : (x.fmod 2147483647 * 48271 + ((j : Int) + 1) * 69621 + 11).natAbs < 2 ^ 64 := by omega
        exact this
      obtain ⟨n1, hn1⟩ : ∃ n1, n1 = ((x.fmod 2147483647 * 48271 + ((j : Int) + 1) * 69621 + 11) ^ (5 : Int).toNat).fmod 2147483647 := ⟨_, rfl⟩
      rw [← hn1]
      obtain ⟨d1, d2⟩ : 0 ≤ n1 ∧ n1 < 2147483647 := by rw [hn1]; exact fmod_bd (by decide)
      ((try dsimp only); rw [B_law_take_t8, O.ssCons]; simp! only [lka2])
      refine ⟨.inl (.inr (by decide)), .inl (.inr (by decide)), ⟨by decide, by decide, ?_⟩, by decide, ?_⟩
      · have : (n1 * 16807 + ((j : Int) + 1) * 40692 + 7).natAbs < 2 ^ 64 := by omega
        exact this
      ((try dsimp only); rw [B_law_take_t9, O.ssCons]; simp! only)
      refine ⟨.inl ⟨by decide, by decide⟩, by omega, ?_⟩
      obtain ⟨g1, g2⟩ := fmod_bd (x := (((n1 * 16807 + ((j : Int) + 1) * 40692 + 7) ^ (5 : Int).toNat).fmod 2147483629).fdiv 16) hl
      exact hk _ _ g1 g2 ⟨⟨hab, p + 1, j + 1, cells, by omega, by rw [ha2]; simp, hb2, hc⟩, hk2⟩
  ((try dsimp only); rw [B_law_take_t4, O.ssCons]; simp! only [lkb1])
  cases hce : cells with
  | nil =>
    subst hce
    refine iteF (by simp) ?_
    exact key 0 false (by simp) (fun _ => rfl)
  | cons c0 cr =>
    refine iteT (by simp) ?_
    have hlt : at' < cells.length := by
      rw [hce] at hat2 ⊢
      simp only [List.length_cons] at hat2 ⊢
      split at hat2 <;> omega
    ((try dsimp only); rw [B_law_take_b1, O.ssCons]; simp! only [lkb1])
    have hi : at'.toNat < cells.length := by omega
    refine ⟨_, atD_some hat2.1 (by rw [List.length_map]; exact hlt), ?_⟩
    simp only [List.getElem_map]
    exact key _ true (fun _ => hlt) (by simp)
end LX

set_option linter.all false
set_option maxRecDepth 10000
namespace LX
open DL TB PX
variable {G : Nat → Option Fn}
def startS : FSp := fun ds m k _ => ∃ ns : List Int, ds = [.scr ns] ∧ ns.length ≤ 100 ∧ ∀ a b m', StB m' a b 0 → (∀ c o, m c = some o → m' c = some o ∧ c ≠ a ∧ c ≠ b) → k (.loc a) m'
theorem d_start : ∀ ds m k e, startS ds m k e → rdF G 2 B_law_start ds m k e := by
  rintro ds m k e ⟨ns, rfl, hn, hk⟩
  (simp only [rdF, B_law_start, List.map_cons, List.map_nil, List.length_cons, List.length_nil, Nat.zero_add, Nat.reduceAdd, Nat.reduceSub, List.replicate_succ, List.replicate_zero, List.cons_append, List.nil_append]; rw [O.ssCons])
  (try simp! only)
  refine compW_mp (f := DV.int) (fun i => DV.int i) trivial (fun i _ kk h => ?_) ?_
  · (try simp! only)
    exact h
  · (try simp! only)
    intro b hb a ha
    have hab : a ≠ b := fun e => by rw [e, put_same] at ha; cases ha
    have hma : m a = none := by rw [put_ne hab] at ha; exact ha
    refine hk a b _ ⟨hab, 0, 0, ns, Nat.le_refl 0, put_same, by rw [put_ne (Ne.symm hab), put_same], hn⟩ fun c o hc => ?_
    have h1 : c ≠ a := ne_of_some hc hma
    have h2 : c ≠ b := ne_of_some hc hb
    exact ⟨by rw [put_ne h1, put_ne h2]; exact hc, h1, h2⟩
theorem look_new {m : Mu} {a : Nat} {o : DO} {d : DV} {xs : List DV} (ha : m a = none) (h : look m d = .lst xs ∨ look m d = .tup xs) : look (m.put a o) d = look m d := by
  refine look_put fun e => ?_
  subst e
  unfold look at h
  simp only [ha] at h
  rcases h with h | h <;> cases h
theorem look_dr {m m' : Mu} {a b n : Nat} {d : DV} {xs : List DV} (hd : Dr m m' a b n) (h : look m d = .lst xs ∨ look m d = .tup xs) (h1 : d ≠ .loc a) (h2 : d ≠ .loc b) : look m' d = look m d := by
  cases d with
  | loc c =>
    have g1 : c ≠ a := fun e => h1 (by rw [e])
    have g2 : c ≠ b := fun e => h2 (by rw [e])
    cases e : m c with
    | none =>
      unfold look at h
      simp only [e] at h
      rcases h with h | h <;> cases h
    | some o =>
      unfold look
      simp only [e, hd.2 c o g1 g2 e]
  | _ => rfl
structure GL (G : Nat → Option Fn) : Prop extends GP6 G where
  take : G 16 = some (.gen takeS)
theorem len_items {d : DV} {xs : List DV} {m : Mu} (h : look m d = .lst xs ∨ look m d = .tup xs) {k : DV → Prop} (hk : k (.int xs.length)) : bltD .len [look m d] k := by
  rcases h with h | h <;> rw [h] <;> exact hk
theorem list_items {d : DV} {xs : List DV} {m : Mu} (h : look m d = .lst xs ∨ look m d = .tup xs) {k : DV → Prop} (hk : k (.lst xs)) : bltD .list [look m d] k := by
  rcases h with h | h <;> rw [h] <;> exact hk
def shuffledS : FSp := fun ds m k _ => ∃ (a b n : Nat) (it : DV) (xs : List DV), ds = [.loc a, it] ∧ StB m a b n ∧ n < 100000000 ∧ (look m it = .lst xs ∨ look m it = .tup xs) ∧ it ≠ .loc a ∧ it ≠ .loc b ∧ xs.length ≤ 100 ∧
  ∀ (ys : List DV) (c : Nat) (m' : Mu), ys.Perm xs → m c = none → Dr m m' a b (n + xs.length) → m' c = some (.lst ys) → k (.loc c) m'
theorem perm_erase {α : Type} : ∀ {L : List α} {j : Nat} (h : j < L.length), (L[j] :: L.eraseIdx j).Perm L
  | [], _, h => absurd h (Nat.not_lt_zero _)
  | x :: r, 0, _ => List.Perm.refl _
  | x :: r, j + 1, h => by
    have ih := perm_erase (L := r) (j := j) (Nat.lt_of_succ_lt_succ h)
    simp only [List.getElem_cons_succ, List.eraseIdx_cons_succ]
    exact (List.Perm.swap _ _ _).trans (List.Perm.cons x ih)
theorem perm_pop {α : Type} {T L xs : List α} {j : Nat} {v : α} (h : (T ++ L).Perm xs) (hv : L[j]? = some v) : ((T ++ [v]) ++ L.eraseIdx j).Perm xs := by
  refine List.Perm.trans ?_ h
  rw [List.append_assoc]
  refine List.Perm.append_left T ?_
  obtain ⟨hj, rfl⟩ := List.getElem?_eq_some_iff.mp hv
  exact perm_erase hj
theorem d_shuffled (g : GL G) : ∀ ds m k e, shuffledS ds m k e → rdF G 5 B_law_shuffled ds m k e := by
  rintro ds m k e ⟨a, b, n, it, xs, rfl, hs, hn, hit, hia, hib, hl, hk⟩
  (simp only [rdF, B_law_shuffled, List.map_cons, List.map_nil, List.length_cons, List.length_nil, Nat.zero_add, Nat.reduceAdd, Nat.reduceSub, List.replicate_succ, List.replicate_zero, List.cons_append, List.nil_append]; rw [O.ssCons])
  (try simp! only)
  refine list_items hit ?_
  (try simp! only)
  intro d hd
  obtain ⟨hda, hdb⟩ := hs.nea hd
  have hit1 : look (m.put d (.lst xs)) it = .lst xs ∨ look (m.put d (.lst xs)) it = .tup xs := by rw [look_new hd hit]; exact hit
  ((try dsimp only); rw [B_law_shuffled_t1, O.ssCons]; simp! only)
  intro c hc
  have hcd : c ≠ d := fun e => by rw [e, put_same] at hc; cases hc
  have hmc : m c = none := by rw [put_ne hcd] at hc; exact hc
  obtain ⟨hca, hcb⟩ := hs.nea hmc
  have hit2 : look ((m.put d (.lst xs)).put c (.lst [])) it = .lst xs ∨ look ((m.put d (.lst xs)).put c (.lst [])) it = .tup xs := by rw [look_new hc hit1]; exact hit1
  ((try dsimp only); rw [B_law_shuffled_t2, O.ssCons]; simp! only)
  refine len_items hit2 ?_
  refine ⟨_, rfl, by omega, by omega, ?_⟩
  simp only [Int.toNat_natCast]
  unfold rangeL
  refine forW_map (f := fun i : Nat => DV.int (0 + (i : Int) * 1)) (fun done r m' => ∃ w L T, r = [some (.loc a), some it, some (.loc d), some (.loc c), w] ∧ Dr m m' a b (n + done.length) ∧ m' d = some (.lst L) ∧ m' c = some (.lst T) ∧ (T ++ L).Perm xs ∧ L.length + done.length = xs.length) ⟨none, xs, [], rfl, ?_, ?_, ?_, by simp, by simp⟩ ?_ ?_
  · refine (hs.dr.put hd).put hc
  · rw [put_ne (Ne.symm hcd), put_same]
  · rw [put_same]
  · rintro done j rest r m' e1 ⟨w, L, T, rfl, hdr, hmd, hmc', hp, hlen⟩ K hK
    obtain ⟨hj, hj2⟩ := range_split e1
    subst hj
    refine ⟨trivial, ?_⟩
    have hT : T.length + L.length = xs.length := by rw [← hp.length_eq, List.length_append]
    (try simp! only)
    ((try dsimp only); rw [B_law_shuffled_b1, O.ssCons]; simp! only [look_loc hmd, look_loc hmc', callG g.take])
    refine ⟨a, b, n + done.length, L.length, rfl, hdr.1, by omega, by omega, by omega, fun r m2 h0 h1 h2 => ?_⟩
    have hd2 := h2.2 d _ hda hdb hmd
    have hc2 := h2.2 c _ hca hcb hmc'
    have hi : r.toNat < L.length := by omega
    (try simp! only)
    refine ⟨L, r.toNat, _, hd2, idx_some h0 h1, List.getElem?_eq_getElem hi, ?_⟩
    (try simp! only)
    refine ⟨T, by rw [put_ne hcd]; exact hc2, Nat.lt_of_le_of_lt (m := 100) (by omega) (by decide), ?_⟩
    refine hK _ _ ⟨_, L.eraseIdx r.toNat, T ++ [L[r.toNat]], rfl, ?_, ?_, put_same, perm_pop hp (List.getElem?_eq_getElem hi), ?_⟩
    · have h3 : Dr m m2 a b (n + (done ++ [done.length]).length) := by
        have := hdr.trans h2
        simp only [List.length_append, List.length_cons, List.length_nil]
        exact this
      refine ⟨(h3.1.put hda hdb).put hca hcb, fun c' o g1 g2 g3 => ?_⟩
      have h4 := h3.2 c' o g1 g2 g3
      have e1 : c' ≠ c := ne_of_some g3 hmc
      have e2 : c' ≠ d := ne_of_some g3 hd
      rw [put_ne e1, put_ne e2]
      exact h4
    · rw [put_ne (Ne.symm hcd), put_same]
    · rw [List.length_eraseIdx_of_lt hi]
      simp only [List.length_append, List.length_cons, List.length_nil]
      omega
  · rintro r m' ⟨w, L, T, rfl, hdr, hmd, hmc', hp, hlen⟩
    refine ⟨trivial, ?_⟩
    ((try dsimp only); rw [B_law_shuffled_t3, O.ssCons]; simp! only)
    rw [List.length_range] at hdr hlen
    have : L = [] := List.length_eq_zero_iff.mp (by omega)
    subst this
    rw [List.append_nil] at hp
    exact hk T c m' hp hmc hdr hmc'
end LX

set_option linter.all false
set_option maxRecDepth 10000
namespace LX
open DL TB PX
variable {G : Nat → Option Fn}
structure GL1 (G : Nat → Option Fn) : Prop extends GL G where
  shuffled : G 17 = some (.gen shuffledS)
/-! ### lists of texts in order -/
theorem leS_trans (a b c : S) (h1 : leS a b = true) (h2 : leS b c = true) : leS a c = true := by
  simp only [leS, Bool.not_eq_true', decide_eq_false_iff_not] at *
  exact List.not_lt.mpr (List.le_trans (List.not_lt.mp h1) (List.not_lt.mp h2))
theorem leS_total (a b : S) : (leS a b || leS b a) = true := by
  simp only [leS, Bool.or_eq_true, Bool.not_eq_true', decide_eq_false_iff_not]
  rcases List.le_total a b with h | h
  · exact .inl (List.not_lt.mpr h)
  · exact .inr (List.not_lt.mpr h)
theorem leS_anti {a b : S} (h1 : leS a b = true) (h2 : leS b a = true) : a = b := by
  simp only [leS, Bool.not_eq_true', decide_eq_false_iff_not] at *
  exact List.le_antisymm (List.not_lt.mp h1) (List.not_lt.mp h2)
theorem sort_pw (l : List S) : (sortS l).Pairwise (fun a b => leS a b = true) := List.pairwise_mergeSort leS_trans leS_total l
theorem sort_perm (l : List S) : (sortS l).Perm l := List.mergeSort_perm l leS
theorem sorted_uniq : ∀ {a b : List S}, a.Perm b → a.Pairwise (fun a b => leS a b = true) → b.Pairwise (fun a b => leS a b = true) → a = b
  | [], b, h, _, _ => (List.Perm.nil_eq h)
  | x :: r, [], h, _, _ => absurd h.length_eq (by simp)
  | x :: r, y :: t, h, ha, hb => by
    have hx : x ∈ y :: t := h.subset List.mem_cons_self
    have hy : y ∈ x :: r := h.symm.subset List.mem_cons_self
    have e : x = y := by
      rcases List.mem_cons.mp hx with e | hx
      · exact e
      · rcases List.mem_cons.mp hy with e | hy
        · exact e.symm
        · exact leS_anti ((List.pairwise_cons.mp ha).1 y hy) ((List.pairwise_cons.mp hb).1 x hx)
    subst e
    rw [sorted_uniq h.cons_inv (List.pairwise_cons.mp ha).2 (List.pairwise_cons.mp hb).2]
theorem sort_eq {a b : List S} (h : a.Perm b) : sortS a = sortS b := sorted_uniq ((sort_perm a).trans (h.trans (sort_perm b).symm)) (sort_pw a) (sort_pw b)
theorem sort_of {a b : List S} (h : a.Perm b) (hb : b.Pairwise (fun a b => leS a b = true)) : sortS a = b := sorted_uniq ((sort_perm a).trans h) (sort_pw a) hb
/-- names as the law draws them -/
structure NmOk (l : List S) : Prop where
  n1 : 1 ≤ l.length
  n8 : l.length ≤ 8
  nd : l.Nodup
  val : ∀ x ∈ l, validN x = true
  srt : l.Pairwise (fun a b => leS a b = true)
theorem perm_map_inv {α β : Type} {f : α → β} : ∀ {ys : List β} {l : List α}, ys.Perm (l.map f) → ∃ l' : List α, ys = l'.map f ∧ l'.Perm l := by
  intro ys l h
  generalize hz : l.map f = zs at h
  induction h generalizing l with
  | nil => exact ⟨[], rfl, by rw [List.map_eq_nil_iff] at hz; rw [hz]⟩
  | cons x _ ih =>
    cases l with
    | nil => cases hz
    | cons a r =>
      rw [List.map_cons] at hz
      injection hz with h1 h2
      obtain ⟨l', e, p⟩ := ih h2
      exact ⟨a :: l', by rw [List.map_cons, e, h1], p.cons a⟩
  | swap x y t =>
    cases l with
    | nil => cases hz
    | cons a r =>
      cases r with
      | nil => cases hz
      | cons b r =>
        rw [List.map_cons, List.map_cons] at hz
        injection hz with h1 h2
        injection h2 with h2 h3
        exact ⟨b :: a :: r, by rw [List.map_cons, List.map_cons, h1, h2, h3], List.Perm.swap _ _ _⟩
  | trans _ _ ih1 ih2 =>
    obtain ⟨l1, e1, p1⟩ := ih2 hz
    obtain ⟨l2, e2, p2⟩ := ih1 e1.symm
    exact ⟨l2, e2, p2.trans p1⟩
def W1 : List S := [[97], [98], [99], [100], [101], [102], [103], [104]]
def W2 : List S := [[120], [120, 121], [121], [120, 49], [120, 49, 48], [121, 120], [114, 48], [114, 49]]
def W3 : List S := [[119], [97, 108, 119, 97, 121, 115], [110, 101, 118, 101, 114], [114, 111, 119], [122], [114, 101, 97, 100], [100, 114, 111, 112], [116]]
def W4 : List S := [[102, 108, 111, 119, 49], [102, 108, 111, 119, 50], [102, 108, 111, 119, 51], [102, 108, 111, 119, 52], [102, 108, 111, 119, 97, 49], [102, 108, 111, 119, 97, 50], [102, 108, 111, 119], [102, 108, 111]]
theorem W_ok {W : List S} (h : W = W1 ∨ W = W2 ∨ W = W3 ∨ W = W4) : W.length = 8 ∧ W.Nodup ∧ ∀ x ∈ W, validN x = true := by
  rcases h with rfl | rfl | rfl | rfl <;> decide
theorem nm_of {W W' : List S} {t : Nat} (h : W = W1 ∨ W = W2 ∨ W = W3 ∨ W = W4) (hp : W'.Perm W) (h1 : 1 ≤ t) (h8 : t ≤ 8) : NmOk (sortS (W'.take t)) := by
  obtain ⟨l, nd, v⟩ := W_ok h
  have hlen : (sortS (W'.take t)).length = t := by
    rw [(sort_perm _).length_eq, List.length_take, hp.length_eq, l]
    omega
  refine ⟨by omega, by omega, ?_, fun x hx => ?_, sort_pw _⟩
  · exact (sort_perm _).nodup_iff.mpr ((hp.nodup_iff.mpr nd).sublist (List.take_sublist _ _))
  · exact v x (hp.subset (List.mem_of_mem_take ((sort_perm _).subset hx)))
def unknownsS : FSp := fun ds m k _ => ∃ (a b n : Nat) (mo : Int), ds = [.loc a, .int mo] ∧ StB m a b n ∧ n < 10000000 ∧ 1 ≤ mo ∧ mo ≤ 8 ∧ ∀ names m', NmOk names → Dr m m' a b (n + 20) → k (strT names) m'
theorem d_unknowns (g : GL1 G) : ∀ ds m k e, unknownsS ds m k e → rdF G 4 B_law_unknowns ds m k e := by
  rintro ds m k e ⟨a, b, n, mo, rfl, hs, hn, h1, h8, hk⟩
  (simp only [rdF, B_law_unknowns, List.map_cons, List.map_nil, List.length_cons, List.length_nil, Nat.zero_add, Nat.reduceAdd, Nat.reduceSub, List.replicate_succ, List.replicate_zero, List.cons_append, List.nil_append]; rw [O.ssCons])
  (try simp! only)
  intro c hc
  obtain ⟨hca, hcb⟩ := hs.nea hc
  ((try dsimp only); rw [B_law_unknowns_t1, O.ssCons]; simp! only [look_loc put_same])
  refine ⟨_, put_same, by decide, ?_⟩
  rw [put_put]
  ((try dsimp only); rw [B_law_unknowns_t2, O.ssCons]; simp! only [look_loc put_same])
  refine ⟨_, put_same, by decide, ?_⟩
  rw [put_put]
  have e0 : ∀ o, Dr m (m.put c o) a b n := fun o => hs.dr.put hc
  change rdSs G B_law_unknowns_t3 _ _ (m.put c (.lst ([W1, W2, W3, W4].map fun w => DV.lst (w.map DV.str))))
  have hc1 : (m.put c (.lst ([W1, W2, W3, W4].map fun w => DV.lst (w.map DV.str)))) c = some (.lst ([W1, W2, W3, W4].map fun w => DV.lst (w.map DV.str))) := put_same
  have d0 := e0 (.lst ([W1, W2, W3, W4].map fun w => DV.lst (w.map DV.str)))
  generalize m.put c (.lst ([W1, W2, W3, W4].map fun w => DV.lst (w.map DV.str))) = m1 at hc1 d0
  ((try dsimp only); rw [B_law_unknowns_t3, O.ssCons]; simp! only [look_loc hc1, callG g.take])
  refine ⟨a, b, n, 4, rfl, d0.1, by omega, by decide, by decide, fun r m2 r0 r1 d1 => ?_⟩
  have hc2 := d1.2 c _ hca hcb hc1
  obtain ⟨W, hat, hW⟩ : ∃ W, atD ([W1, W2, W3, W4].map fun w => DV.lst (w.map DV.str)) r = some (DV.lst (W.map DV.str)) ∧ (W = W1 ∨ W = W2 ∨ W = W3 ∨ W = W4) := by
    have : r = 0 ∨ r = 1 ∨ r = 2 ∨ r = 3 := by omega
    rcases this with rfl | rfl | rfl | rfl
    · exact ⟨W1, rfl, .inl rfl⟩
    · exact ⟨W2, rfl, .inr (.inl rfl)⟩
    · exact ⟨W3, rfl, .inr (.inr (.inl rfl))⟩
    · exact ⟨W4, rfl, .inr (.inr (.inr rfl))⟩
  (try simp! only [look_loc hc2, callG g.shuffled])
  refine ⟨_, hat, a, b, n + 1, _, W.map DV.str, rfl, d1.1, by omega, .inl rfl, by simp, by simp, by rw [List.length_map, (W_ok hW).1]; decide, fun ys d m3 hp hd d2 hm3 => ?_⟩
  obtain ⟨W', rfl, hp'⟩ := perm_map_inv hp
  have d2' : Dr m m3 a b (n + 9) := by
    have := (d0.trans d1).trans d2
    rw [List.length_map, (W_ok hW).1] at this
    exact this.mono (by omega)
  obtain ⟨hda, hdb⟩ := d1.1.nea hd
  ((try dsimp only); rw [B_law_unknowns_t4, O.ssCons]; simp! only [look_loc hm3, callG g.take])
  refine ⟨a, b, n + 9, mo, rfl, d2'.1, by omega, by omega, by omega, fun q m4 q0 q1 d3 => ?_⟩
  have hm4 := d3.2 d _ hda hdb hm3
  have eq : (1 : Int) + q = ((1 + q.toNat : Nat) : Int) := by omega
  (try simp! only [look_loc hm4, eq, cut_take, ← List.map_take, sort_strs])
  exact ⟨srtOk_strs _, hk _ _ (nm_of hW hp' (by omega) (by omega)) ((d2'.trans d3).mono (by omega))⟩
end LX

set_option linter.all false
set_option maxRecDepth 10000
namespace LX
open DL TB PX
variable {G : Nat → Option Fn}
/-- a comprehension over what stands for the items of a list, with a state -/
theorem compW_st {α : Type} {f : α → DV} {T : DV → Mu → (Option DV → Mu → Prop) → Prop} {src : Mu → Prop} {k : List DV → Mu → Prop} (I : List α → List DV → Mu → Prop) {l : List α} {m : Mu} (h0 : I [] [] m)
    (hs : ∀ done x rest acc m, l = done ++ x :: rest → I done acc m → ∀ kk : Option DV → Mu → Prop, (∀ d m1, I (done ++ [x]) (acc ++ [d]) m1 → kk (some d) m1) → (∀ m1, I (done ++ [x]) acc m1 → kk none m1) → src m ∧ T (f x) m kk)
    (he : ∀ acc m, I l acc m → src m ∧ k acc m) : compW T src (l.map f) [] m k := by
  have main : ∀ (xs done : List α) (acc : List DV) (m : Mu), l = done ++ xs → I done acc m → compW T src (xs.map f) acc m k := by
    intro xs
    induction xs with
    | nil =>
      intro done acc m e h
      rw [List.append_nil] at e
      subst e
      exact he acc m h
    | cons x t ih =>
      intro done acc m e h
      have e' : l = (done ++ [x]) ++ t := by rw [e]; simp
      exact hs done x t acc m e h _ (fun d m1 h' => ih (done ++ [x]) (acc ++ [d]) m1 e' h') (fun m1 h' => ih (done ++ [x]) acc m1 e' h')
  exact main l [] [] m rfl h0
def partS : FSp := fun ds m k _ => ∃ (a b n : Nat) (x : DV) (l : List S) (c : Int), ds = [.loc a, x, .int c] ∧ StB m a b n ∧ n < 100000000 ∧ (x = strT l ∨ x = .lst (l.map DV.str)) ∧ l.length ≤ 20 ∧ 0 < c ∧ c < 1000 ∧ ∀ l' m', l'.Sublist l → Dr m m' a b (n + l.length) → k (strT l') m'
theorem items_of {x : DV} {l : List S} (h : x = strT l ∨ x = .lst (l.map DV.str)) {m : Mu} : itemsD (look m x) = some (l.map DV.str) ∧ ∀ s, look m x ≠ .str s := by
  rcases h with rfl | rfl
  · exact ⟨rfl, fun s h => by cases h⟩
  · exact ⟨rfl, fun s h => by cases h⟩
theorem d_part (g : GL1 G) : ∀ ds m k e, partS ds m k e → rdF G 4 B_law_part ds m k e := by
  rintro ds m k e ⟨a, b, n, x, l, c, rfl, hs, hn, hx, hl, hc, hc2, hk⟩
  (simp only [rdF, B_law_part, List.map_cons, List.map_nil, List.length_cons, List.length_nil, Nat.zero_add, Nat.reduceAdd, Nat.reduceSub, List.replicate_succ, List.replicate_zero, List.cons_append, List.nil_append]; rw [O.ssCons])
  (try simp! only)
  refine ⟨_, (items_of hx).1, fun s h => absurd h ((items_of hx).2 s), ?_⟩
  refine compW_st (f := DV.str) (fun done acc m' => ∃ l', acc = l'.map DV.str ∧ l'.Sublist done ∧ Dr m m' a b (n + done.length)) ⟨[], rfl, List.Sublist.refl [], hs.dr⟩ ?_ ?_
  · rintro done y rest acc m' e1 ⟨l', rfl, hl', hd⟩ kk hk1 hk2
    have hlen := congrArg List.length e1
    simp only [List.length_append, List.length_cons] at hlen
    refine ⟨(items_of hx).1, ?_⟩
    (try simp! only [callG g.take])
    refine ⟨a, b, n + done.length, c, rfl, hd.1, by omega, hc, by omega, fun r m2 h0 h1 h2 => ?_⟩
    have h3 : Dr m m2 a b (n + (done ++ [y]).length) := by
      have := hd.trans h2
      simp only [List.length_append, List.length_cons, List.length_nil]
      exact this
    (try simp! only)
    cases hr : (r == 0) with
    | true =>
      (try simp! only)
      exact hk1 _ _ ⟨l' ++ [y], by simp, List.Sublist.append hl' (List.Sublist.refl _), h3⟩
    | false =>
      (try simp! only)
      exact hk2 _ ⟨l', rfl, hl'.trans (List.sublist_append_left _ _), h3⟩
  · rintro acc m' ⟨l', rfl, hl', hd⟩
    refine ⟨(items_of hx).1, ?_⟩
    (try simp! only)
    exact hk l' m' hl' hd
/-- a row as the law draws it -/
def RowOk (names : List S) (r : Row) : Prop := r.1.Sublist names ∧ r.2.Sublist (names.filter fun x => decide (x ∉ r.1))
theorem sub_filter : ∀ {l n : List S}, l.Sublist n → n.Nodup → l = n.filter fun x => decide (x ∈ l)
  | _, _, .slnil, _ => rfl
  | l, a :: n, .cons _ h, hn => by
    rw [List.nodup_cons] at hn
    have ha : a ∉ l := fun h' => hn.1 (h.subset h')
    rw [List.filter_cons_of_neg (by simp [ha])]
    exact sub_filter h hn.2
  | a :: l, _ :: n, .cons₂ _ h, hn => by
    rw [List.nodup_cons] at hn
    rw [List.filter_cons_of_pos (by simp)]
    congr 1
    conv => lhs; rw [sub_filter h hn.2]
    refine List.filter_congr fun x hx => ?_
    have : x ≠ a := fun e => hn.1 (e ▸ hx)
    simp [this]
theorem RowOk.isRow {names : List S} {r : Row} (h : RowOk names r) (hn : names.Nodup) : isRowB names r = true := by
  have h2 : r.2.Sublist names := h.2.trans List.filter_sublist
  unfold isRowB
  rw [isPart_tup, isPart_tup]
  simp only [Bool.and_eq_true, decide_eq_true_eq, Bool.not_eq_true', List.any_eq_false]
  refine ⟨⟨sub_filter h.1 hn, sub_filter h2 hn⟩, fun x hx hx2 => ?_⟩
  have := h.2.subset hx2
  rw [List.mem_filter] at this
  simp [hx] at this
theorem RowOk.sub {names : List S} {r : Row} (h : RowOk names r) (hn : names.Nodup) : (∀ x ∈ r.1, x ∈ names) ∧ (∀ x ∈ r.2, x ∈ names) ∧ (r.1 ++ r.2).Nodup := by
  have h2 : r.2.Sublist names := h.2.trans List.filter_sublist
  refine ⟨fun x hx => h.1.subset hx, fun x hx => h2.subset hx, ?_⟩
  rw [List.nodup_append]
  refine ⟨hn.sublist h.1, hn.sublist h2, fun x hx y hy e => ?_⟩
  subst e
  have := h.2.subset hy
  rw [List.mem_filter] at this
  simp [hx] at this
structure GL2 (G : Nat → Option Fn) : Prop extends GL1 G where
  part : G 18 = some (.gen partS)
theorem pick {xs : List Int} {r : Int} (h0 : 0 ≤ r) (h1 : r < xs.length) : ∃ c, atD (xs.map DV.int) r = some (.int c) ∧ c ∈ xs := by
  refine ⟨xs[r.toNat]'(by omega), ?_, List.getElem_mem _⟩
  rw [atD_some h0 (by rw [List.length_map]; exact h1)]
  simp
def rowS : FSp := fun ds m k _ => ∃ (a b n : Nat) (names : List S), ds = [.loc a, strT names] ∧ StB m a b n ∧ n < 10000000 ∧ NmOk names ∧ ∀ r m', RowOk names r → Dr m m' a b (n + 30) → k (rowD r) m'
theorem d_row (g : GL2 G) : ∀ ds m k e, rowS ds m k e → rdF G 6 B_law_row ds m k e := by
  rintro ds m k e ⟨a, b, n, names, rfl, hs, hn, nok, hk⟩
  have h8 := nok.n8
  (simp only [rdF, B_law_row, List.map_cons, List.map_nil, List.length_cons, List.length_nil, Nat.zero_add, Nat.reduceAdd, Nat.reduceSub, List.replicate_succ, List.replicate_zero, List.cons_append, List.nil_append]; rw [O.ssCons])
  (try simp! only [callG g.take])
  refine ⟨a, b, n, 3, rfl, hs, by omega, by decide, by decide, fun r m1 h0 h1 d1 => ?_⟩
  obtain ⟨c, hc, hc2⟩ := pick (xs := [2, 3, 4]) h0 h1
  have hc3 : 0 < c ∧ c < 10 := by
    simp only [List.mem_cons, List.not_mem_nil, or_false] at hc2
    omega
  refine ⟨_, hc, ?_⟩
  ((try dsimp only); rw [B_law_row_t1, O.ssCons]; simp! only [callG g.part])
  refine ⟨a, b, n + 1, _, names, c, rfl, d1.1, by omega, .inl rfl, by omega, by omega, by omega, fun s m2 hsub d2 => ?_⟩
  have d2' : Dr m m2 a b (n + 9) := (d1.trans d2).mono (by omega)
  ((try dsimp only); rw [B_law_row_t2, O.ssCons]; simp! only [strT])
  refine compW_flt (fun x => decide (x ∉ s)) trivial (fun x _ kk h => ?_) ?_
  · (try simp! only)
    by_cases hx : x ∈ s <;> simpa [hx] using h
  ((try dsimp only); rw [B_law_row_t3, O.ssCons]; simp! only [callG g.take])
  refine ⟨a, b, n + 9, 2, rfl, d2'.1, by omega, by decide, by decide, fun r m3 h0 h1 d3 => ?_⟩
  have d3' := d2'.trans d3
  (try simp! only)
  cases hr : (r == 0) with
  | true =>
    (try simp! only [B_law_row_b1, rdSs])
    exact hk (s, []) m3 ⟨hsub, List.nil_sublist _⟩ (d3'.mono (by omega))
  | false =>
    (try simp! only)
    ((try dsimp only); rw [B_law_row_t4, O.ssCons]; simp! only [callG g.take])
    refine ⟨a, b, n + 10, 2, rfl, d3'.1, by omega, by decide, by decide, fun r m4 h0 h1 d4 => ?_⟩
    have d4' := d3'.trans d4
    obtain ⟨c, hc, hc2⟩ := pick (xs := [2, 4]) h0 h1
    have hc3 : 0 < c ∧ c < 10 := by
      simp only [List.mem_cons, List.not_mem_nil, or_false] at hc2
      omega
    have hlf : (names.filter fun x => decide (x ∉ s)).length ≤ 8 := Nat.le_trans (List.length_filter_le _ _) h8
    refine ⟨_, hc, ?_⟩
    (try simp! only [callG g.part])
    refine ⟨a, b, n + 11, _, names.filter fun x => decide (x ∉ s), c, rfl, d4'.1, by omega, .inr rfl, by omega, by omega, by omega, fun s2 m5 hsub2 d5 => ?_⟩
    exact hk (s, s2) m5 ⟨hsub, hsub2⟩ ((d4'.trans d5).mono (by omega))
structure GL3 (G : Nat → Option Fn) : Prop extends GL2 G where
  row : G 19 = some (.gen rowS)
def mdD (sh : Sh) : DV := .tup [strT sh.names, .lst (sh.rows.map rowD)]
/-- a model as the law draws it -/
structure MdOk (sh : Sh) : Prop where
  nm : NmOk sh.names
  r8 : sh.rows.length ≤ 8
  rows : ∀ r ∈ sh.rows, RowOk sh.names r
theorem MdOk.sh {s : Sh} (h : MdOk s) : ShOk s := ⟨h.nm.n1, h.nm.n8, h.r8, h.nm.nd, fun r hr => ⟨((h.rows r hr).sub h.nm.nd).1, ((h.rows r hr).sub h.nm.nd).2.1⟩, fun r hr => ((h.rows r hr).sub h.nm.nd).2.2⟩
def modelS : FSp := fun ds m k _ => ∃ (a b n : Nat) (names : List S) (mo : Int), ds = [.loc a, strT names, .int mo] ∧ StB m a b n ∧ n < 1000000 ∧ NmOk names ∧ 0 ≤ mo ∧ mo ≤ 8 ∧ ∀ rows m', MdOk ⟨names, rows⟩ → Dr m m' a b (n + 300) → k (mdD ⟨names, rows⟩) m'
theorem d_model (g : GL3 G) : ∀ ds m k e, modelS ds m k e → rdF G 4 B_law_model ds m k e := by
  rintro ds m k e ⟨a, b, n, names, mo, rfl, hs, hn, nok, m0, m8, hk⟩
  (simp only [rdF, B_law_model, List.map_cons, List.map_nil, List.length_cons, List.length_nil, Nat.zero_add, Nat.reduceAdd, Nat.reduceSub, List.replicate_succ, List.replicate_zero, List.cons_append, List.nil_append]; rw [O.ssCons])
  (try simp! only [callG g.take])
  refine ⟨a, b, n, mo + 1, rfl, hs, by omega, by omega, by omega, fun r m1 h0 h1 d1 => ?_⟩
  refine ⟨_, rfl, by omega, by omega, ?_, ?_⟩
  · unfold rangeL
    rw [List.length_map, List.length_range]
    exact Nat.le_trans (m := 8) (by omega) (by decide)
  unfold rangeL
  refine compW_st (f := fun i : Nat => DV.int (0 + (i : Int) * 1)) (fun done acc m' => ∃ rows, acc = rows.map rowD ∧ rows.length = done.length ∧ (∀ r ∈ rows, RowOk names r) ∧ Dr m m' a b (n + 1 + 30 * done.length)) ⟨[], rfl, rfl, (fun _ h => by cases h), d1⟩ ?_ ?_
  · rintro done y rest acc m' e1 ⟨rows, rfl, hl, hr, hd⟩ kk hk1 hk2
    obtain ⟨_, hj2⟩ := range_split e1
    obtain ⟨hj, _⟩ := range_split e1
    refine ⟨trivial, ?_⟩
    (try simp! only [callG g.row])
    refine ⟨a, b, _, names, rfl, hd.1, by omega, nok, fun r' m2 hr' d2 => ?_⟩
    refine hk1 _ _ ⟨rows ++ [r'], by simp, by simp [hl], fun q hq => ?_, (hd.trans d2).mono (by simp only [List.length_append, List.length_cons, List.length_nil]; omega)⟩
    rcases List.mem_append.mp hq with h | h
    · exact hr q h
    · rw [List.mem_singleton.mp h]
      exact hr'
  · rintro acc m' ⟨rows, rfl, hl, hr, hd⟩
    refine ⟨trivial, ?_⟩
    rw [List.length_range] at hl hd
    (try simp! only)
    exact hk rows m' ⟨nok, by show rows.length ≤ 8; omega, hr⟩ (hd.mono (by omega))
end LX

set_option linter.all false
set_option maxRecDepth 10000
namespace LX
open DL TB PX
variable {G : Nat → Option Fn}
structure GL4 (G : Nat → Option Fn) : Prop extends GL3 G where
  mkSh : G 1005 = some (.gen mkS)
theorem del_put {m : Mu} {a : Nat} {o : DO} (h : m a = none) : (m.put a o).del a = m := by
  funext c
  unfold Mu.put Mu.del
  by_cases hc : c = a
  · simp [hc, h]
  · simp [hc]
def shapeS : FSp := fun ds m k _ => ∃ (a b n : Nat) (sh : Sh), ds = [.loc a, mdD sh] ∧ StB m a b n ∧ n < 1000000 ∧ MdOk sh ∧ ∀ m', Dr m m' a b (n + 10) → k (shD sh) m'
theorem d_shape (g : GL4 G) : ∀ ds m k e, shapeS ds m k e → rdF G 2 B_law_shape ds m k e := by
  rintro ds m k e ⟨a, b, n, sh, rfl, hs, hn, mok, hk⟩
  have h8 := mok.nm.n8
  (simp only [rdF, B_law_shape, mdD, List.map_cons, List.map_nil, List.length_cons, List.length_nil, Nat.zero_add, Nat.reduceAdd, Nat.reduceSub, List.replicate_succ, List.replicate_zero, List.cons_append, List.nil_append]; rw [O.ssCons])
  (try simp! only [callG g.shuffled, strT])
  refine ⟨a, b, n, _, sh.names.map DV.str, rfl, hs, by omega, .inl rfl, by simp, by simp, by rw [List.length_map]; omega, fun ys c m1 hp hc d1 hm1 => ?_⟩
  obtain ⟨l, rfl, hp'⟩ := perm_map_inv hp
  rw [List.length_map] at d1
  have hsort : sortS l = sh.names := sort_of hp' mok.nm.srt
  (try simp! only [callG g.mkSh])
  refine ⟨_, _, l, sh.rows, rfl, ⟨look_loc hm1, rfl, ?_, ?_, ?_, ?_, mok.r8, ?_⟩, fun d hd => ?_⟩
  · rw [hp'.length_eq]; exact mok.nm.n1
  · rw [hp'.length_eq]; exact mok.nm.n8
  · exact fun x hx => mok.nm.val x (hp'.subset hx)
  · exact hp'.nodup_iff.mpr mok.nm.nd
  · intro r hr
    rw [hsort]
    exact (mok.rows r hr).isRow mok.nm.nd
  · show frzD (.loc d) _ k
    rw [O.frzL, put_same]
    simp only
    rw [del_put hd, hsort]
    exact hk m1 (d1.mono (by omega))
/-! ### all sets -/
def pw : List S → List (List S) → List (List S)
  | [], acc => acc
  | x :: t, acc => pw t (acc ++ acc.map (· ++ [x]))
def pairD (s : List S) : DV := .tup [.int (s.length : Int), strT s]
def setsL (names : List S) : List (List S) := (pw names [[]]).mergeSort fun a b => lev (pairD a) (pairD b)
theorem pw_len : ∀ (l : List S) (acc : List (List S)), (pw l acc).length = acc.length * 2 ^ l.length
  | [], acc => by simp [pw]
  | x :: t, acc => by
    rw [pw, pw_len t, List.length_append, List.length_map, List.length_cons, Nat.pow_succ]
    rw [← Nat.mul_two, Nat.mul_assoc, Nat.mul_comm 2]
theorem mem_pw : ∀ {l : List S} {acc : List (List S)} {s : List S}, s ∈ pw l acc ↔ ∃ p t, p ∈ acc ∧ t.Sublist l ∧ s = p ++ t
  | [], acc, s => by
    constructor
    · exact fun h => ⟨s, [], h, List.Sublist.refl [], by simp⟩
    · rintro ⟨p, t, h, ht, rfl⟩
      rw [List.sublist_nil.mp ht]
      simpa [pw] using h
  | x :: l, acc, s => by
    rw [pw, mem_pw]
    constructor
    · rintro ⟨p, t, h, ht, rfl⟩
      rcases List.mem_append.mp h with h | h
      · exact ⟨p, t, h, ht.trans (List.sublist_cons_self _ _), rfl⟩
      · obtain ⟨q, hq, rfl⟩ := List.mem_map.mp h
        exact ⟨q, x :: t, hq, ht.cons₂ x, by simp⟩
    · rintro ⟨p, t, h, ht, rfl⟩
      cases ht with
      | cons _ ht => exact ⟨p, t, List.mem_append_left _ h, ht, rfl⟩
      | cons_cons _ ht => exact ⟨p ++ [x], _, List.mem_append_right _ (List.mem_map.mpr ⟨p, h, rfl⟩), ht, by simp⟩
theorem mem_sets {names s : List S} : s ∈ setsL names ↔ s.Sublist names := by
  unfold setsL
  rw [List.mem_mergeSort, mem_pw]
  constructor
  · rintro ⟨p, t, h, ht, rfl⟩
    rw [List.mem_singleton.mp h]
    simpa using ht
  · exact fun h => ⟨[], s, List.mem_singleton.mpr rfl, h, by simp⟩
theorem sets_len (names : List S) : (setsL names).length = 2 ^ names.length := by
  unfold setsL
  rw [List.length_mergeSort, pw_len]
  simp
def setsS : PSp := fun ds Q _ => ∃ names, ds = [strT names] ∧ names.length ≤ 8 ∧ Q (.lst ((setsL names).map strT))
theorem srtOk_pairs (l : List (List S)) : srtOk (l.map pairD) := by
  refine ⟨fun a ha b hb => ?_, .inl fun a ha => ?_, plains_map (fun _ => ?_) l, Nat.le_trans (depths_map (n := 2) (fun s => ?_) l) (by decide)⟩
  · obtain ⟨x, _, rfl⟩ := List.mem_map.mp ha
    obtain ⟨y, _, rfl⟩ := List.mem_map.mp hb
    have : ∀ x y : List S, alks (x.map DV.str) (y.map DV.str) = true := by
      intro x
      induction x with
      | nil => intro y; simp [alks]
      | cons a r ih =>
        intro y
        cases y with
        | nil => simp [alks]
        | cons b t => simp [alks, alk, ih t]
    simp [pairD, strT, alk, alks, this]
  · obtain ⟨x, _, rfl⟩ := List.mem_map.mp ha
    rfl
  · simp [pairD, strT, plain_tup, plains_cons, plain_int, plains_strs, plains_nil]
  · simp [pairD, strT, depth_tup, depths_cons, depth_int, depths_strs, depths_nil]
theorem sort_pairs (l : List (List S)) : (l.map pairD).mergeSort lev = (l.mergeSort fun a b => lev (pairD a) (pairD b)).map pairD := (List.map_mergeSort (f := pairD) (r := fun a b => lev (pairD a) (pairD b)) (s := lev) fun a _ b _ => rfl).symm
theorem pow8 {n : Nat} (h : n ≤ 8) : 2 ^ n ≤ 256 := Nat.pow_le_pow_right (n := 2) (by decide) h
theorem d_sets : ∀ ds Q E, setsS ds Q E → rdF G 5 B_law_sets ds Mu.nil (fun d _ => Q d) (fun x _ => E x) := by
  rintro ds Q E ⟨names, rfl, h8, hq⟩
  (simp only [rdF, B_law_sets, strT, List.map_cons, List.map_nil, List.length_cons, List.length_nil, Nat.zero_add, Nat.reduceAdd, Nat.reduceSub, List.replicate_succ, List.replicate_zero, List.cons_append, List.nil_append]; rw [O.ssCons])
  (try simp! only)
  ((try dsimp only); rw [B_law_sets_t1, O.ssCons]; simp! only)
  refine forW_map (f := DV.str) (fun done r m => m = Mu.nil ∧ ∃ acc w w2 w3, r = [some (.tup (names.map DV.str)), some (.lst (acc.map strT)), w, w2, w3] ∧ acc.length = 2 ^ done.length ∧ (∀ s ∈ acc, s.length ≤ done.length) ∧ ∀ t, names = done ++ t → pw names [[]] = pw t acc) ⟨rfl, [[]], none, none, none, rfl, rfl, by simp, fun t h => by rw [h]; rfl⟩ ?_ ?_
  · rintro done x rest r m e1 ⟨rfl, acc, w, w2, w3, rfl, hl, hsl, hall⟩ K hK
    refine ⟨trivial, ?_⟩
    have hdl : done.length ≤ 7 := by
      have := congrArg List.length e1
      simp only [List.length_append, List.length_cons] at this
      omega
    have hp := pow8 (n := done.length) (by omega)
    (try simp! only)
    ((try dsimp only); rw [B_law_sets_b1, O.ssCons]; simp! only)
    refine compW_mp (fun s => strT (s ++ [x])) trivial (fun s hs kk h => ?_) ?_
    · (try simp! only [strT])
      refine ⟨?_, ?_⟩
      · have := hsl s hs
        rw [List.length_map]
        exact Nat.le_trans (m := 9) (by omega) (by decide)
      · simpa [strT] using h
    · (try simp! only)
      refine ⟨by simp only [List.length_map]; exact Nat.le_trans (m := 512) (by omega) (by decide), ?_⟩
      refine hK _ _ ⟨rfl, acc ++ acc.map (· ++ [x]), _, _, _, by rw [List.map_append, List.map_map]; rfl, ?_, fun s hs => ?_, fun t h => ?_⟩
      · rw [List.length_append, List.length_map, List.length_append, List.length_cons, List.length_nil, Nat.pow_succ, hl]
        omega
      · rw [List.length_append, List.length_cons, List.length_nil]
        rcases List.mem_append.mp hs with h | h
        · have := hsl s h
          omega
        · obtain ⟨q, hq', rfl⟩ := List.mem_map.mp h
          have := hsl q hq'
          rw [List.length_append, List.length_cons, List.length_nil]
          omega
      · rw [hall (x :: t) (by rw [h]; simp), pw]
  · rintro r m ⟨rfl, acc, w, w2, w3, rfl, hl, hsl, hall⟩
    refine ⟨trivial, ?_⟩
    have hacc : pw names [[]] = acc := hall [] (by simp)
    ((try dsimp only); rw [B_law_sets_t2, O.ssCons]; simp! only)
    refine compW_mp pairD trivial (fun s hs kk h => ?_) ?_
    · (try simp! only [strT, List.length_map])
      exact h
    · (try simp! only [sort_pairs])
      refine ⟨srtOk_pairs _, ?_⟩
      refine compW_mp strT trivial (fun s hs kk h => ?_) ?_
      · (try simp! only [pairD])
        exact h
      · (try simp! only)
        rw [← hacc]
        exact hq
end LX

set_option linter.all false
set_option maxRecDepth 10000
namespace LX
open DL TB PX
variable {G : Nat → Option Fn}
/-! ### the law's own reached -/
def lRow (st : List S) (r : Row) : List S := match (r.1 ++ r.2).filter fun x => decide (x ∉ st) with
  | [x] => if x ∈ r.1 then st ++ [x] else st
  | _ => st
def lTurn (rows : List Row) (st : List S) : List S := rows.foldl lRow st
def lIter (rows : List Row) : Nat → List S → List S
  | 0, st => st
  | n + 1, st => lTurn rows (lIter rows n st)
def lReach (sh : Sh) (rd : List S) : List S := sortS (lIter sh.rows sh.names.length rd)
theorem lRow_len (st : List S) (r : Row) : (lRow st r).length ≤ st.length + 1 := by
  unfold lRow
  split
  · split
    · simp
    · omega
  · omega
theorem lFold_len (rows : List Row) : ∀ st, (rows.foldl lRow st).length ≤ st.length + rows.length := by
  induction rows with
  | nil => intro st; simp
  | cons r t ih =>
    intro st
    rw [List.foldl_cons, List.length_cons]
    have := ih (lRow st r)
    have := lRow_len st r
    omega
theorem lIter_len (rows : List Row) (st : List S) : ∀ n, (lIter rows n st).length ≤ st.length + n * rows.length
  | 0 => by simp [lIter]
  | n + 1 => by
    have h1 := lIter_len rows st n
    have h2 := lFold_len rows (lIter rows n st)
    rw [lIter, lTurn, Nat.succ_mul]
    omega
def lReachedS : PSp := fun ds Q _ => ∃ sh rd, ds = [mdD sh, strT rd] ∧ ShOk sh ∧ rd.length ≤ 8 ∧ Q (strT (lReach sh rd))
theorem d_reachedL : ∀ ds Q E, lReachedS ds Q E → rdF G 8 B_law_reached ds Mu.nil (fun d _ => Q d) (fun x _ => E x) := by
  rintro ds Q E ⟨sh, rd, rfl, ok, hl, hq⟩
  have h8 := ok.n8
  have r8 := ok.r8
  (simp only [rdF, B_law_reached, mdD, strT, List.map_cons, List.map_nil, List.length_cons, List.length_nil, Nat.zero_add, Nat.reduceAdd, Nat.reduceSub, List.replicate_succ, List.replicate_zero, List.cons_append, List.nil_append]; rw [O.ssCons])
  (try simp! only)
  intro a ha
  ((try dsimp only); rw [B_law_reached_t1, O.ssCons]; simp! only [List.length_map])
  refine ⟨by omega, by omega, ?_⟩
  unfold rangeL
  simp only [Int.toNat_natCast]
  refine forW_map (f := fun i : Nat => DV.int (0 + (i : Int) * 1)) (fun done r m => ∃ w1 w2 w3 w4 w5, r = [some (.tup [.tup (sh.names.map DV.str), .lst (sh.rows.map rowD)]), some (.tup (rd.map DV.str)), some (.loc a), w1, w2, w3, w4, w5] ∧ m = Mu.nil.put a (.lst ((lIter sh.rows done.length rd).map DV.str))) ⟨none, none, none, none, none, rfl, rfl⟩ ?_ ?_
  · rintro done j rest r m e1 ⟨w1, w2, w3, w4, w5, rfl, rfl⟩ K hK
    obtain ⟨hj, hj2⟩ := range_split e1
    subst hj
    refine ⟨trivial, ?_⟩
    (try simp! only)
    ((try dsimp only); rw [B_law_reached_b1, O.ssCons]; simp! only)
    refine forW_map (f := rowD) (fun dn r m => ∃ w2 w3 w4 w5, r = [some (.tup [.tup (sh.names.map DV.str), .lst (sh.rows.map rowD)]), some (.tup (rd.map DV.str)), some (.loc a), some (.int (0 + (done.length : Int) * 1)), w2, w3, w4, w5] ∧ m = Mu.nil.put a (.lst ((dn.foldl lRow (lIter sh.rows done.length rd)).map DV.str))) ⟨_, _, _, _, rfl, rfl⟩ ?_ ?_
    · rintro dn ⟨s, p⟩ rest2 r m e2 ⟨w2, w3, w4, w5, rfl, rfl⟩ K2 hK2
      have hrow : (s, p) ∈ sh.rows := by rw [e2]; simp
      have hlen := ok.len hrow
      simp only at hlen
      refine ⟨trivial, ?_⟩
      obtain ⟨st, hst⟩ : ∃ st, st = dn.foldl lRow (lIter sh.rows done.length rd) := ⟨_, rfl⟩
      have hstl : st.length ≤ 100 := by
        have h1 := lIter_len sh.rows rd done.length
        have h2 := lFold_len dn (lIter sh.rows done.length rd)
        have h3 : dn.length ≤ 8 := by
          have := congrArg List.length e2
          simp only [List.length_append, List.length_cons] at this
          omega
        have h4 : done.length * sh.rows.length ≤ 8 * 8 := Nat.mul_le_mul (by omega) r8
        rw [hst]
        omega
      rw [← hst]
      have hfin : (dn ++ [(s, p)]).foldl lRow (lIter sh.rows done.length rd) = lRow st (s, p) := by rw [List.foldl_append, ← hst]; rfl
      have la := look_loc (put_same (m := Mu.nil) (a := a) (o := .lst (st.map DV.str)))
      (try simp! only [rowD, strT])
      ((try dsimp only); rw [B_law_reached_b2, O.ssCons]; simp! only)
      refine ⟨by simp only [List.length_map]; exact Nat.le_trans hlen (by decide), ?_⟩
      rw [← List.map_append]
      refine compW_flt (fun x => decide (x ∉ st)) trivial (fun x _ kk h => ?_) ?_
      · (try simp! only [la])
        by_cases hx : x ∈ st <;> simpa [hx] using h
      ((try dsimp only); rw [B_law_reached_b2_t1, O.ssCons]; simp! only [List.length_map])
      have hlr : lRow st (s, p) = match (s ++ p).filter fun x => decide (x ∉ st) with
        | [x] => if x ∈ s then st ++ [x] else st
        | _ => st := rfl
      generalize (s ++ p).filter (fun x => decide (x ∉ st)) = op at hlr
      match op, hlr with
      | [], hlr =>
        refine iteF (by simp) ?_
        exact hK2 _ _ ⟨_, _, _, _, rfl, by rw [hfin, hlr]⟩
      | x :: y :: t, hlr =>
        refine iteF (by simp; omega) ?_
        exact hK2 _ _ ⟨_, _, _, _, rfl, by rw [hfin, hlr]⟩
      | [x], hlr =>
        refine iteT (by simp) ?_
        (try simp! only)
        by_cases hx : x ∈ s
        · simp only [hx, if_true] at hlr
          (try simp! only [hx, decide_true])
          ((try dsimp only); rw [B_law_reached_b3, O.ssCons]; simp! only [la])
          refine ⟨_, put_same, by rw [List.length_map]; exact Nat.lt_of_le_of_lt hstl (by decide), ?_⟩
          refine hK2 _ _ ⟨_, _, _, _, rfl, ?_⟩
          rw [put_put, hfin, hlr]
          simp
        · simp only [hx, if_false] at hlr
          (try simp! only [hx, decide_false])
          exact hK2 _ _ ⟨_, _, _, _, rfl, by rw [hfin, hlr]⟩
    · rintro r m ⟨w2, w3, w4, w5, rfl, rfl⟩
      refine ⟨trivial, ?_⟩
      (try simp! only)
      refine hK _ _ ⟨_, _, _, _, _, rfl, ?_⟩
      rw [List.length_append]
      rfl
  · rintro r m ⟨w1, w2, w3, w4, w5, rfl, rfl⟩
    refine ⟨trivial, ?_⟩
    rw [List.length_range]
    ((try dsimp only); rw [B_law_reached_t2, O.ssCons]; simp! only [look_loc put_same, sort_strs])
    exact ⟨srtOk_strs _, hq⟩
/-! ### what is no set -/
structure GL5 (G : Nat → Option Fn) : Prop extends GL4 G where
  sets : G 20 = some (.pure setsS)
def OddV (names : List S) (v : DV) : Prop := (v = .dic [] ∨ (plain v = true ∧ depth v ≤ 5)) ∧ isPartB names v = false
theorem OddV.ok {names : List S} {v : DV} (h : OddV names v) : vOk v := by
  rcases h.1 with h | ⟨h1, h2⟩
  · exact .inl h
  · exact .inr ⟨h1, by omega⟩
def keepB (names : List S) (v : DV) : Bool := !kindB .tuple v || !((setsL names).map strT).any fun z => eqv z v
theorem any_strT {l : List (List S)} {x : List S} : ((l.map strT).any fun z => eqv z (strT x)) = decide (x ∈ l) := any_tupS
theorem keep_part {names : List S} {v : DV} (hn : names.Nodup) (h : keepB names v = true) : isPartB names v = false := by
  cases hp : isPartB names v with
  | false => rfl
  | true =>
    obtain ⟨l, rfl, hl⟩ := isPart_inv hp
    have hs : l ∈ setsL names := mem_sets.mpr (by rw [hl]; exact List.filter_sublist)
    unfold keepB at h
    rw [any_strT, decide_eq_true hs] at h
    cases h
def oddS : FSp := fun ds m k _ => ∃ (a b n : Nat) (names : List S), ds = [.loc a, strT names] ∧ StB m a b n ∧ n < 10000000 ∧ NmOk names ∧ ∀ v m', OddV names v → Dr m m' a b (n + 20) → k v m'
def cands (names p : List S) : List DV := [.lst (p.map DV.str), .tup ((p.reverse ++ p.take 1).map DV.str), .tup ((p ++ [[122, 122, 57]]).map DV.str), .non, .int 0, .str [97], .dic [], .tup [.non], .tup [.lst []], .tup [.int 1], .lst [.lst []], .bl true, .tup (names.reverse.map DV.str), .tup (p.reverse.map DV.str), .tup (([97, 97, 48] :: p).map DV.str)]
theorem cands_ok {names p : List S} : ∀ v ∈ cands names p, v = .dic [] ∨ (plain v = true ∧ depth v ≤ 5) := by
  intro v hv
  have hT : ∀ l : List S, (plain (.tup (l.map DV.str)) = true ∧ depth (.tup (l.map DV.str)) ≤ 5) := fun l => ⟨by rw [plain_tup, plains_strs], by rw [depth_tup, depths_strs]; decide⟩
  have hL : ∀ l : List S, (plain (.lst (l.map DV.str)) = true ∧ depth (.lst (l.map DV.str)) ≤ 5) := fun l => ⟨by rw [plain_lst, plains_strs], by rw [depth_lst, depths_strs]; decide⟩
  simp only [cands, List.mem_cons, List.not_mem_nil, or_false] at hv
  rcases hv with rfl | rfl | rfl | rfl | rfl | rfl | rfl | rfl | rfl | rfl | rfl | rfl | rfl | rfl | rfl <;> first | exact .inl rfl | exact .inr (hT _) | exact .inr (hL _) | exact .inr ⟨by decide, by decide⟩
theorem d_odd_set (g : GL5 G) : ∀ ds m k e, oddS ds m k e → rdF G 5 B_law_odd_set ds m k e := by
  rintro ds m k e ⟨a, b, n, names, rfl, hs, hn, nok, hk⟩
  have h8 := nok.n8
  (simp only [rdF, B_law_odd_set, List.map_cons, List.map_nil, List.length_cons, List.length_nil, Nat.zero_add, Nat.reduceAdd, Nat.reduceSub, List.replicate_succ, List.replicate_zero, List.cons_append, List.nil_append]; rw [O.ssCons])
  (try simp! only [callG g.part])
  refine ⟨a, b, n, _, names, 2, rfl, hs, by omega, .inl rfl, by omega, by decide, by decide, fun p m1 hp d1 => ?_⟩
  have hp8 : p.length ≤ 8 := Nat.le_trans hp.length_le h8
  ((try dsimp only); rw [B_law_odd_set_t1, O.ssCons]; simp! only [strT])
  have e1 : cut (p.map DV.str) none (some 1) = (p.take 1).map DV.str := by
    rw [show (1 : Int) = ((1 : Nat) : Int) from rfl, cut_take, List.map_take]
  have hl1 : (p.take 1).length ≤ 1 := by rw [List.length_take]; omega
  rw [e1]
  refine ⟨by simp only [List.length_reverse, List.length_map]; exact Nat.le_trans (m := 9) (by omega) (by decide), by rw [List.length_map]; exact Nat.le_trans (m := 9) (by omega) (by decide), ?_⟩
  ((try dsimp only); rw [B_law_odd_set_t2, O.ssCons]; simp! only)
  refine ⟨by rw [List.length_map]; exact Nat.le_trans (m := 9) (by omega) (by decide), ?_⟩
  have ec : [DV.lst (p.map DV.str), DV.tup ((p.map DV.str).reverse ++ (p.take 1).map DV.str), DV.tup (p.map DV.str ++ [DV.str [122, 122, 57]]), DV.non, DV.int 0, DV.str [97], DV.dic [], DV.tup [DV.non], DV.tup [DV.lst []], DV.tup [DV.int 1], DV.lst [DV.lst []], DV.bl true, DV.tup (names.map DV.str).reverse, DV.tup (p.map DV.str).reverse, DV.tup (DV.str [97, 97, 48] :: p.map DV.str)] = cands names p := by
    simp [cands]
  rw [ec]
  have hok := cands_ok (names := names) (p := p)
  have h0 : DV.lst (p.map DV.str) ∈ cands names p := List.mem_cons_self
  have hcl : (cands names p).length = 15 := rfl
  clear ec
  generalize cands names p = cs at hok h0 hcl
  ((try dsimp only); rw [B_law_odd_set_t3, O.ssCons]; simp! only)
  refine compW_pure (fun v => if keepB names v then some v else none) trivial (fun v hv kk h => ?_) ?_
  · have hvk : vOk v := by
      rcases hok v hv with h | ⟨h1, h2⟩
      · exact .inl h
      · exact .inr ⟨h1, by omega⟩
    (try simp! only [isiV hvk (k := .tuple) rfl, hvk.look, hvk.nl, callP g.sets])
    cases hk : kindB .tuple v with
    | false =>
      (try simp! only [Bool.not_false])
      simpa [keepB, hk] using h
    | true =>
      (try simp! only [Bool.not_true])
      refine ⟨names, rfl, h8, ?_⟩
      (try simp! only)
      have hpl : plain v = true ∧ depth v ≤ 5 := by
        rcases hok v hv with rfl | h
        · cases hk
        · exact h
      refine ⟨⟨hpl.1, plains_map (fun s => by unfold strT; rw [plain_tup, plains_strs]) _, by omega, Nat.le_trans (depths_map (n := 1) (fun s => by unfold strT; rw [depth_tup, depths_strs]; decide) _) (by decide)⟩, ?_⟩
      have ek : keepB names v = !((setsL names).map strT).any fun z => eqv z v := by simp [keepB, hk]
      rw [ek] at h
      cases hb : ((setsL names).map strT).any fun z => eqv z v with
      | true => simpa [hb] using h
      | false => simpa [hb] using h
  · have ef : cs.filterMap (fun v => if keepB names v then some v else none) = cs.filter (keepB names) := by
      have := fm_flt (keepB names) id cs
      simpa using this
    simp only [List.nil_append, ef]
    obtain ⟨fl, hfl⟩ : ∃ fl, fl = cs.filter (keepB names) := ⟨_, rfl⟩
    have hne : 0 < fl.length := by
      rw [hfl]
      exact List.length_pos_of_mem (List.mem_filter.mpr ⟨h0, rfl⟩)
    have hle : fl.length ≤ 15 := by
      rw [hfl, ← hcl]
      exact List.length_filter_le _ _
    rw [← hfl]
    ((try dsimp only); rw [B_law_odd_set_t4, O.ssCons]; simp! only [callG g.take])
    refine ⟨a, b, n + names.length, fl.length, rfl, d1.1, by omega, by omega, by omega, fun r m2 r0 r1 d2 => ?_⟩
    obtain ⟨v, hv, hin⟩ := at_in (xs := fl) r0 r1
    refine ⟨v, hv, hk v m2 ?_ ((d1.trans d2).mono (by omega))⟩
    rw [hfl, List.mem_filter] at hin
    exact ⟨hok v hin.1, keep_part nok.nd hin.2⟩
end LX

set_option linter.all false
namespace MX
open DL PX LX
/-! steps, row by row: the law's and the program's -/
theorem stepB_iff {r : Row} {st : List S} {x : S} : stepB r st x = true ↔ x ∉ st ∧ x ∈ r.1 ∧ ∀ o ∈ r.1 ++ r.2, o = x ∨ o ∈ st := by
  unfold stepB
  simp only [Bool.and_eq_true, decide_eq_true_eq, List.all_eq_true, Bool.or_eq_true]
/-- the open ones are one, and surely -/
theorem stepB_open {r : Row} {st : List S} {x : S} (hn : (r.1 ++ r.2).Nodup) : stepB r st x = true ↔ ((r.1 ++ r.2).filter (fun y => decide (y ∉ st)) = [x] ∧ x ∈ r.1) := by
  rw [stepB_iff]
  constructor
  · rintro ⟨h1, h2, h3⟩
    refine ⟨?_, h2⟩
    have hx : x ∈ r.1 ++ r.2 := List.mem_append_left _ h2
    have key : ∀ l : List S, l.Nodup → x ∈ l → (∀ o ∈ l, o = x ∨ o ∈ st) → l.filter (fun y => decide (y ∉ st)) = [x] := by
      intro l
      induction l with
      | nil => intro _ h; cases h
      | cons a t ih =>
        intro hd hm ho
        rw [List.nodup_cons] at hd
        by_cases e : a = x
        · subst e
          rw [List.filter_cons_of_pos (by simp [h1])]
          congr 1
          rw [List.filter_eq_nil_iff]
          intro y hy
          rcases ho y (List.mem_cons_of_mem _ hy) with h | h
          · exact absurd (h ▸ hy) hd.1
          · simp [h]
        · have ha : a ∈ st := by
            rcases ho a List.mem_cons_self with h | h
            · exact absurd h e
            · exact h
          rw [List.filter_cons_of_neg (by simp [ha])]
          refine ih hd.2 ?_ fun o h => ho o (List.mem_cons_of_mem _ h)
          rcases List.mem_cons.mp hm with h | h
          · exact absurd h.symm e
          · exact h
    exact key _ hn hx h3
  · rintro ⟨h1, h2⟩
    have hx : x ∈ (r.1 ++ r.2).filter (fun y => decide (y ∉ st)) := by rw [h1]; simp
    rw [List.mem_filter] at hx
    refine ⟨by simpa using hx.2, h2, fun o ho => ?_⟩
    by_cases hs : o ∈ st
    · exact .inr hs
    · have : o ∈ (r.1 ++ r.2).filter (fun y => decide (y ∉ st)) := List.mem_filter.mpr ⟨ho, by simp [hs]⟩
      rw [h1] at this
      exact .inl (List.mem_singleton.mp this)
/-- no row gives anything more -/
def Closed (rows : List Row) (st : List S) : Prop := ∀ r ∈ rows, ∀ x, stepB r st x = false
theorem enumP_mem {α : Type} : ∀ {l : List α} {n j : Nat} {x : α}, l[j]? = some x → (n + j, x) ∈ enumP n l
  | [], _, _, _, h => by simp at h
  | y :: t, n, 0, x, h => by
    simp only [List.getElem?_cons_zero, Option.some.injEq] at h
    rw [h]
    simp [enumP]
  | y :: t, n, j + 1, x, h => by
    rw [List.getElem?_cons_succ] at h
    have := enumP_mem (n := n + 1) h
    rw [show n + (j + 1) = n + 1 + j by omega]
    exact List.mem_cons_of_mem _ this
theorem nextS_none {st : List S} {rows : List Row} : nextS st rows = none ↔ Closed rows st := by
  unfold nextS Closed
  rw [List.findSome?_eq_none_iff]
  constructor
  · intro h r hr x
    obtain ⟨j, hj⟩ := List.getElem?_of_mem hr
    have h1 := h (0 + j, r) (enumP_mem hj)
    rw [Option.map_eq_none_iff, List.findSome?_eq_none_iff] at h1
    cases hb : stepB r st x with
    | false => rfl
    | true =>
      have hx : x ∈ r.1 := (stepB_iff.mp hb).2.1
      have h2 := h1 x hx
      simp [hb] at h2
  · rintro h ⟨j, r⟩ hp
    obtain ⟨_, h2⟩ := enumP_get hp
    rw [Option.map_eq_none_iff, List.findSome?_eq_none_iff]
    intro x hx
    simp [h r (List.mem_of_getElem? h2) x]
section
variable {sh : Sh} (ok : ShOk sh)
include ok
/-- behind the steps nothing more is given -/
theorem steps_closed : ∀ (n : Nat) (st : List S), free sh.names st ≤ n → Closed sh.rows (st ++ (stepsF sh.rows n st).map (·.2))
  | 0, st, h => by
    simp only [stepsF, List.map_nil, List.append_nil]
    rw [← nextS_none]
    cases e : nextS st sh.rows with
    | none => rfl
    | some p =>
      obtain ⟨j, x⟩ := p
      obtain ⟨h1, h2, _⟩ := next_in ok e
      have := free_lt h1 h2
      omega
  | n + 1, st, h => by
    unfold stepsF
    cases e : nextS st sh.rows with
    | none =>
      simp only [List.map_nil, List.append_nil]
      exact nextS_none.mp e
    | some p =>
      obtain ⟨j, x⟩ := p
      obtain ⟨h1, h2, _⟩ := next_in ok e
      have h3 := free_lt h1 h2
      have := steps_closed n (st ++ [x]) (by omega)
      simpa using this
theorem steps_valid : ∀ (n : Nat) (st : List S), validL sh.rows st (stepsF sh.rows n st) = true
  | 0, st => rfl
  | n + 1, st => by
    unfold stepsF
    cases e : nextS st sh.rows with
    | none => rfl
    | some p =>
      obtain ⟨j, x⟩ := p
      obtain ⟨r, hr, hb⟩ := nextS_some e
      simp only [validL, stepAt_some hr, hb, Bool.true_and]
      exact steps_valid n (st ++ [x])
end
/-- a valid list: no name twice, none of those that stand -/
theorem valid_fresh {rows : List Row} : ∀ {st : List S} {l : List (Nat × S)}, validL rows st l = true → (l.map (·.2)).Nodup ∧ ∀ x ∈ l.map (·.2), x ∉ st
  | _, [], _ => ⟨List.nodup_nil, fun _ h => by cases h⟩
  | st, (n, x) :: t, h => by
    simp only [validL, Bool.and_eq_true] at h
    obtain ⟨h1, h2⟩ := h
    obtain ⟨g1, g2⟩ := valid_fresh h2
    have hx : x ∉ st := by
      unfold stepAt at h1
      split at h1
      · exact (stepB_iff.mp h1).1
      · cases h1
    refine ⟨?_, fun y hy => ?_⟩
    · rw [List.map_cons, List.nodup_cons]
      exact ⟨fun h => g2 x h (by simp), g1⟩
    · rw [List.map_cons] at hy
      rcases List.mem_cons.mp hy with e | hy
      · rw [e]; exact hx
      · exact fun hs => g2 y hy (List.mem_append_left _ hs)
theorem valid_app {rows : List Row} : ∀ {st : List S} {a b : List (Nat × S)}, validL rows st (a ++ b) = (validL rows st a && validL rows (st ++ a.map (·.2)) b)
  | st, [], b => by simp [validL]
  | st, (n, x) :: t, b => by
    simp only [List.cons_append, validL, valid_app (a := t), Bool.and_assoc, List.map_cons, List.append_assoc, List.singleton_append, List.nil_append, List.cons_append]
/-- with more that stands a valid list stays valid, if none of its names is among that -/
theorem valid_mono {rows : List Row} : ∀ {st st' : List S} {l : List (Nat × S)}, (∀ x ∈ st, x ∈ st') → (∀ x ∈ l.map (·.2), x ∉ st') → validL rows st l = true → validL rows st' l = true
  | _, _, [], _, _, _ => rfl
  | st, st', (n, x) :: t, h1, h2, h => by
    obtain ⟨nd, _⟩ := valid_fresh h
    rw [List.map_cons, List.nodup_cons] at nd
    simp only [validL, Bool.and_eq_true] at h ⊢
    refine ⟨?_, valid_mono (st := st ++ [x]) (fun y hy => ?_) (fun y hy => ?_) h.2⟩
    · have h3 := h.1
      unfold stepAt at h3 ⊢
      split at h3
      · rename_i r e
        rw [stepB_iff] at h3 ⊢
        exact ⟨h2 x (by simp), h3.2.1, fun o ho => (h3.2.2 o ho).imp id (h1 o)⟩
      · cases h3
    · rcases List.mem_append.mp hy with h | h
      · exact List.mem_append_left _ (h1 y h)
      · exact List.mem_append_right _ h
    · intro hs
      rcases List.mem_append.mp hs with h | h
      · exact h2 y (by simp only [List.map_cons]; exact List.mem_cons_of_mem _ hy) h
      · rw [List.mem_singleton.mp h] at hy
        exact nd.1 hy
/-! ### reached -/
section
variable {sh : Sh}
/-- what a closed set that holds st holds, too -/
theorem steps_in {rows : List Row} {C : List S} (hC : Closed rows C) : ∀ {l : List (Nat × S)} {st : List S}, validL rows st l = true → (∀ x ∈ st, x ∈ C) → ∀ x ∈ l.map (·.2), x ∈ C
  | [], _, _, _, _, h => by cases h
  | (n, x) :: t, st, hv, hs, y, hy => by
    simp only [validL, Bool.and_eq_true] at hv
    have hx : x ∈ C := by
      have h1 := hv.1
      unfold stepAt at h1
      split at h1
      · rename_i r e
        obtain ⟨_, h2, h3⟩ := stepB_iff.mp h1
        cases hc : decide (x ∈ C) with
        | true => simpa using hc
        | false =>
          have hn : x ∉ C := by simpa using hc
          have : stepB r C x = true := stepB_iff.mpr ⟨hn, h2, fun o ho => (h3 o ho).imp id (hs o)⟩
          rw [hC r (List.mem_of_getElem? e) x] at this
          cases this
      · cases h1
    rw [List.map_cons] at hy
    rcases List.mem_cons.mp hy with e | hy
    · rw [e]; exact hx
    · refine steps_in hC hv.2 (fun z hz => ?_) y hy
      rcases List.mem_append.mp hz with h | h
      · exact hs z h
      · rw [List.mem_singleton.mp h]; exact hx
/-- one row of the law's: nothing, or one step -/
theorem lRow_cases (st : List S) (r : Row) (hn : (r.1 ++ r.2).Nodup) : (lRow st r = st ∧ ∀ x, stepB r st x = false) ∨ ∃ x, lRow st r = st ++ [x] ∧ stepB r st x = true := by
  unfold lRow
  split
  · rename_i x e
    by_cases hx : x ∈ r.1
    · rw [if_pos hx]
      exact .inr ⟨x, rfl, (stepB_open hn).mpr ⟨e, hx⟩⟩
    · rw [if_neg hx]
      refine .inl ⟨rfl, fun y => ?_⟩
      cases hb : stepB r st y with
      | false => rfl
      | true =>
        obtain ⟨e2, h2⟩ := (stepB_open hn).mp hb
        rw [e] at e2
        cases e2
        exact absurd h2 hx
  · rename_i hno
    refine .inl ⟨rfl, fun y => ?_⟩
    cases hb : stepB r st y with
    | false => rfl
    | true => exact absurd ((stepB_open hn).mp hb).1 (hno y)
/-- some turns of the law's: what is known of them -/
structure LOk (sh : Sh) (rd st : List S) : Prop where
  nd : st.Nodup
  sub : ∀ x ∈ st, x ∈ sh.names
  hold : ∀ x ∈ rd, x ∈ st
  low : ∀ C, Closed sh.rows C → (∀ x ∈ rd, x ∈ C) → ∀ x ∈ st, x ∈ C
theorem lFold_ok (ok : ShOk sh) {rd : List S} : ∀ (rows : List Row) (st : List S), (∀ r ∈ rows, r ∈ sh.rows) → LOk sh rd st → LOk sh rd (rows.foldl lRow st) ∧ st.length ≤ (rows.foldl lRow st).length ∧ ((rows.foldl lRow st).length = st.length → rows.foldl lRow st = st ∧ ∀ r ∈ rows, ∀ x, stepB r st x = false)
  | [], st, _, h => ⟨h, Nat.le_refl _, fun _ => ⟨rfl, fun _ h => by cases h⟩⟩
  | r :: t, st, hr, h => by
    rw [List.foldl_cons]
    have hm := hr r List.mem_cons_self
    rcases lRow_cases st r (ok.rnd r hm) with ⟨e, hno⟩ | ⟨x, e, hb⟩
    · rw [e]
      obtain ⟨h1, h2, h3⟩ := lFold_ok ok t st (fun q hq => hr q (List.mem_cons_of_mem _ hq)) h
      refine ⟨h1, h2, fun hl => ?_⟩
      obtain ⟨g1, g2⟩ := h3 hl
      refine ⟨g1, fun q hq => ?_⟩
      rcases List.mem_cons.mp hq with e | hq
      · rw [e]; exact hno
      · exact g2 q hq
    · rw [e]
      obtain ⟨b1, b2, b3⟩ := stepB_iff.mp hb
      have h' : LOk sh rd (st ++ [x]) := by
        refine ⟨?_, fun y hy => ?_, fun y hy => List.mem_append_left _ (h.hold y hy), fun C hC hs y hy => ?_⟩
        · rw [List.nodup_append]
          exact ⟨h.nd, by simp, fun a ha c hc e => b1 (by rw [List.mem_singleton.mp hc] at e; rw [← e]; exact ha)⟩
        · rcases List.mem_append.mp hy with q | q
          · exact h.sub y q
          · rw [List.mem_singleton.mp q]; exact (ok.sub r hm).1 x b2
        · rcases List.mem_append.mp hy with q | q
          · exact h.low C hC hs y q
          · rw [List.mem_singleton.mp q]
            cases hc : decide (x ∈ C) with
            | true => simpa using hc
            | false =>
              have hn : x ∉ C := by simpa using hc
              have : stepB r C x = true := stepB_iff.mpr ⟨hn, b2, fun o ho => (b3 o ho).imp id (h.low C hC hs o)⟩
              rw [hC r hm x] at this
              cases this
      obtain ⟨h1, h2, _⟩ := lFold_ok ok t (st ++ [x]) (fun q hq => hr q (List.mem_cons_of_mem _ hq)) h'
      rw [List.length_append, List.length_cons, List.length_nil] at h2
      exact ⟨h1, by omega, fun hl => by omega⟩
theorem closed_same {rows : List Row} {st : List S} (h : Closed rows st) (hn : ∀ r ∈ rows, (r.1 ++ r.2).Nodup) : lTurn rows st = st := by
  unfold lTurn
  induction rows with
  | nil => rfl
  | cons r t ih =>
    rw [List.foldl_cons]
    rcases lRow_cases st r (hn r List.mem_cons_self) with ⟨e, _⟩ | ⟨x, _, hb⟩
    · rw [e]
      exact ih (fun q hq => h q (List.mem_cons_of_mem _ hq)) fun q hq => hn q (List.mem_cons_of_mem _ hq)
    · rw [h r List.mem_cons_self x] at hb
      cases hb
theorem lIter_ok (ok : ShOk sh) {rd : List S} (h0 : LOk sh rd rd) : ∀ n, LOk sh rd (lIter sh.rows n rd) ∧ (Closed sh.rows (lIter sh.rows n rd) ∨ n ≤ (lIter sh.rows n rd).length)
  | 0 => ⟨h0, .inr (Nat.zero_le _)⟩
  | n + 1 => by
    obtain ⟨h1, h2⟩ := lIter_ok ok h0 n
    obtain ⟨g1, g2, g3⟩ := lFold_ok ok sh.rows (lIter sh.rows n rd) (fun _ h => h) h1
    refine ⟨g1, ?_⟩
    rcases h2 with h2 | h2
    · left
      show Closed sh.rows (lTurn sh.rows (lIter sh.rows n rd))
      rw [closed_same h2 ok.rnd]
      exact h2
    · by_cases he : (sh.rows.foldl lRow (lIter sh.rows n rd)).length = (lIter sh.rows n rd).length
      · left
        obtain ⟨e, hc⟩ := g3 he
        show Closed sh.rows (lTurn sh.rows (lIter sh.rows n rd))
        unfold lTurn
        rw [e]
        exact hc
      · right
        show n + 1 ≤ (sh.rows.foldl lRow (lIter sh.rows n rd)).length
        omega
theorem full_mem {l n : List S} (hl : l.Nodup) (hs : ∀ x ∈ l, x ∈ n) (hlen : n.length ≤ l.length) : ∀ x ∈ n, x ∈ l := by
  intro x hx
  cases hc : decide (x ∈ l) with
  | true => simpa using hc
  | false =>
    have hn : x ∉ l := by simpa using hc
    have h1 : (x :: l).Nodup := List.nodup_cons.mpr ⟨hn, hl⟩
    have h2 := nodup_len h1 (n := n) fun y hy => by
      rcases List.mem_cons.mp hy with e | hy
      · rw [e]; exact hx
      · exact hs y hy
    rw [List.length_cons] at h2
    omega
theorem lIter_closed (ok : ShOk sh) {rd : List S} (h0 : LOk sh rd rd) : Closed sh.rows (lIter sh.rows sh.names.length rd) := by
  obtain ⟨h1, h2⟩ := lIter_ok ok h0 sh.names.length
  rcases h2 with h2 | h2
  · exact h2
  · intro r hr x
    cases hb : stepB r (lIter sh.rows sh.names.length rd) x with
    | false => rfl
    | true =>
      obtain ⟨b1, b2, _⟩ := stepB_iff.mp hb
      exact absurd (full_mem h1.nd h1.sub h2 x ((ok.sub r hr).1 x b2)) b1
theorem part_ok (ok : ShOk sh) {rd : List S} (h : rd = sh.names.filter fun n => decide (n ∈ rd)) : LOk sh rd rd := by
  refine ⟨?_, fun x hx => ?_, fun x hx => hx, fun C _ hs => hs⟩
  · rw [h]; exact ok.nd.sublist List.filter_sublist
  · rw [h] at hx; exact (List.mem_filter.mp hx).1
theorem same_sort {a b : List S} (ha : a.Nodup) (hb : b.Nodup) (h : ∀ x, x ∈ a ↔ x ∈ b) : sortS a = sortS b := sort_eq ((List.perm_ext_iff_of_nodup ha hb).mpr h)
/-- what is reached, nodup -/
theorem steps_nodup (ok : ShOk sh) {rd : List S} (h : rd = sh.names.filter fun n => decide (n ∈ rd)) : (rd ++ (stepsOf sh rd).map (·.2)).Nodup := by
  obtain ⟨h1, h2⟩ := valid_fresh (steps_valid ok sh.names.length rd)
  rw [List.nodup_append]
  exact ⟨(part_ok ok h).nd, h1, fun x hx y hy e => h2 y hy (e ▸ hx)⟩
theorem reach_eq (ok : ShOk sh) {rd : List S} (h : rd = sh.names.filter fun n => decide (n ∈ rd)) : lReach sh rd = reachedL sh rd := by
  have h0 := part_ok ok h
  obtain ⟨h1, _⟩ := lIter_ok ok h0 sh.names.length
  have hc := lIter_closed ok h0
  have hs := steps_closed ok sh.names.length rd (free_le _ _)
  refine same_sort h1.nd (steps_nodup ok h) fun x => ⟨fun hx => ?_, fun hx => ?_⟩
  · exact h1.low _ hs (fun y hy => List.mem_append_left _ hy) x hx
  · rcases List.mem_append.mp hx with q | q
    · exact h1.hold x q
    · exact steps_in hc (steps_valid ok sh.names.length rd) h1.hold x q
end
end MX

set_option linter.all false
set_option maxRecDepth 10000
namespace LX
open DL TB PX MX
variable {G : Nat → Option Fn}
/-! ### the law's own steps -/
def lOne (st : List S) (r : Row) : Option S := match (r.1 ++ r.2).filter fun x => decide (x ∉ st) with
  | [x] => if x ∈ r.1 then some x else none
  | _ => none
def lFound (st : List S) (l : List (Nat × Row)) : List (Nat × S) := l.filterMap fun p => (lOne st p.2).map fun x => (p.1, x)
theorem lOne_eq {st : List S} {r : Row} (hn : (r.1 ++ r.2).Nodup) : lOne st r = r.1.findSome? fun x => if stepB r st x = true then some x else none := by
  cases h : r.1.findSome? fun x => if stepB r st x = true then some x else none with
  | some x =>
    obtain ⟨y, hy, e⟩ := List.exists_of_findSome?_eq_some h
    split at e
    · rename_i hb
      cases e
      obtain ⟨h1, h2⟩ := (stepB_open hn).mp hb
      unfold lOne
      rw [h1]
      simp [h2]
    · cases e
  | none =>
    rw [List.findSome?_eq_none_iff] at h
    unfold lOne
    split
    · rename_i x e
      by_cases hx : x ∈ r.1
      · have := (stepB_open hn).mpr ⟨e, hx⟩
        have h2 := h x hx
        rw [this] at h2
        simp at h2
      · rw [if_neg hx]
    · rfl
theorem head_fm {α β : Type} (f : α → Option β) : ∀ l : List α, (l.filterMap f).head? = l.findSome? f
  | [] => rfl
  | a :: t => by
    rw [List.filterMap_cons, List.findSome?_cons]
    cases f a with
    | none => exact head_fm f t
    | some b => rfl
theorem found_head {sh : Sh} (ok : ShOk sh) (st : List S) : (lFound st (enumP 0 sh.rows)).head? = nextS st sh.rows := by
  unfold lFound nextS
  rw [head_fm]
  have key : ∀ l : List (Nat × Row), (∀ p ∈ l, p.2 ∈ sh.rows) → l.findSome? (fun p => (lOne st p.2).map fun x => (p.1, x)) = l.findSome? fun p => (p.2.1.findSome? fun x => if stepB p.2 st x = true then some x else none).map fun x => (p.1, x) := by
    intro l
    induction l with
    | nil => intro _; rfl
    | cons a t ih =>
      intro h
      rw [List.findSome?_cons, List.findSome?_cons, lOne_eq (ok.rnd _ (h a List.mem_cons_self)), ih fun p hp => h p (List.mem_cons_of_mem _ hp)]
  refine key _ fun p hp => ?_
  obtain ⟨j, r⟩ := p
  exact List.mem_of_getElem? (enumP_get hp).2
theorem stepsF_snoc (rows : List Row) : ∀ (n : Nat) (st : List S), stepsF rows (n + 1) st = stepsF rows n st ++ (nextS (st ++ (stepsF rows n st).map (·.2)) rows).toList
  | 0, st => by
    simp only [stepsF, List.map_nil, List.append_nil, List.nil_append]
    cases nextS st rows with
    | none => rfl
    | some p => rfl
  | n + 1, st => by
    rw [stepsF]
    conv => rhs; rw [stepsF]
    cases e : nextS st rows with
    | none => simp [e]
    | some p =>
      simp only [stepsF_snoc rows n, List.map_cons, List.cons_append, List.append_assoc, List.nil_append]
def lStepsS : PSp := fun ds Q _ => ∃ sh rd, ds = [mdD sh, strT rd] ∧ ShOk sh ∧ rd.length ≤ 8 ∧ Q (.lst ((stepsOf sh rd).map stepD))
theorem enumP_take {α : Type} : ∀ (l : List α) (n k : Nat), enumP n (l.take k) = (enumP n l).take k
  | [], _, _ => by simp [enumP]
  | x :: t, n, 0 => rfl
  | x :: t, n, k + 1 => by simp [enumP, enumP_take t (n + 1) k]
theorem enumP_getE {α : Type} : ∀ (l : List α) (n k : Nat), (enumP n l)[k]? = l[k]?.map fun x => (n + k, x)
  | [], _, _ => by simp [enumP]
  | x :: t, n, 0 => by simp [enumP]
  | x :: t, n, k + 1 => by
    simp only [enumP, List.getElem?_cons_succ, enumP_getE t (n + 1) k]
    congr 1
    funext y
    rw [show n + 1 + k = n + (k + 1) by omega]
theorem enumP_len {α : Type} : ∀ (l : List α) (n : Nat), (enumP n l).length = l.length
  | [], _ => rfl
  | x :: t, n => by simp [enumP, enumP_len t (n + 1)]
theorem found_snoc {st : List S} {rows : List Row} {k : Nat} {r : Row} (h : rows[k]? = some r) : lFound st ((enumP 0 rows).take (k + 1)) = lFound st ((enumP 0 rows).take k) ++ ((lOne st r).map fun x => (k, x)).toList := by
  rw [List.take_succ, enumP_getE, h]
  unfold lFound
  rw [List.filterMap_append]
  congr 1
  simp only [Option.map_some, Option.toList_some, Nat.zero_add, List.filterMap_cons, List.filterMap_nil]
  cases lOne st r <;> rfl
theorem found_len {st : List S} {l : List (Nat × Row)} : (lFound st l).length ≤ l.length := List.length_filterMap_le _ _
theorem ne_nil {l : List DV} : eqv (.lst l) (.lst []) = l.isEmpty := by
  rw [eqv_lst]
  cases l with
  | nil => rfl
  | cons a t => rw [eqvs_cn]; rfl
theorem atD_nat {α : Type} {xs : List α} {n : Nat} {v : α} (h : xs[n]? = some v) : atD xs (n : Int) = some v := by
  obtain ⟨hn, _⟩ := List.getElem?_eq_some_iff.mp h
  unfold atD idx
  rw [if_pos (by omega), if_pos (by omega)]
  simpa using h
theorem plains_steps {l : List (Nat × S)} : plains (l.map stepD) = true := plains_map (fun _ => plain_stepD) l
theorem depths_steps {l : List (Nat × S)} : depths (l.map stepD) ≤ 1 := depths_map (fun _ => Nat.le_of_eq depth_stepD) l
theorem d_stepsL : ∀ ds Q E, lStepsS ds Q E → rdF G 9 B_law_steps ds Mu.nil (fun d _ => Q d) (fun x _ => E x) := by
  rintro ds Q E ⟨sh, rd, rfl, ok, hl, hq⟩
  have h8 := ok.n8
  have r8 := ok.r8
  (simp only [rdF, B_law_steps, mdD, strT, List.map_cons, List.map_nil, List.length_cons, List.length_nil, Nat.zero_add, Nat.reduceAdd, Nat.reduceSub, List.replicate_succ, List.replicate_zero, List.cons_append, List.nil_append]; rw [O.ssCons])
  (try simp! only)
  intro a ha
  ((try dsimp only); rw [B_law_steps_t1, O.ssCons]; simp! only)
  intro b hb
  have hab : a ≠ b := fun e => by rw [e, put_same] at hb; cases hb
  ((try dsimp only); rw [B_law_steps_t2, O.ssCons]; simp! only [List.length_map])
  refine ⟨by omega, by omega, ?_⟩
  unfold rangeL
  simp only [Int.toNat_natCast]
  refine forW_map (f := fun i : Nat => DV.int (0 + (i : Int) * 1)) (fun done r m => ∃ w1 w2 w3 w4 w5, r = [some (.tup [.tup (sh.names.map DV.str), .lst (sh.rows.map rowD)]), some (.tup (rd.map DV.str)), some (.loc a), some (.loc b), w1, w2, w3, w4, w5] ∧ m a = some (.lst ((rd ++ (stepsF sh.rows done.length rd).map (·.2)).map DV.str)) ∧ m b = some (.lst ((stepsF sh.rows done.length rd).map stepD))) ⟨none, none, none, none, none, rfl, ?_, put_same⟩ ?_ ?_
  · rw [put_ne hab, put_same]
    simp [stepsF]
  · rintro done j rest r m e1 ⟨w1, w2, w3, w4, w5, rfl, hma, hmb⟩ K hK
    obtain ⟨hj, hj2⟩ := range_split e1
    subst hj
    refine ⟨trivial, ?_⟩
    obtain ⟨F, hF⟩ : ∃ F, F = stepsF sh.rows done.length rd := ⟨_, rfl⟩
    have hFl : F.length ≤ done.length := by rw [hF]; exact stepsF_len _ _ _
    obtain ⟨st, hst⟩ : ∃ st, st = rd ++ F.map (·.2) := ⟨_, rfl⟩
    have hstl : st.length ≤ 16 := by
      rw [hst, List.length_append, List.length_map]
      omega
    rw [← hF, ← hst] at hma
    rw [← hF] at hmb
    have hnew : stepsF sh.rows (done.length + 1) rd = F ++ (nextS st sh.rows).toList := by rw [stepsF_snoc, ← hF, ← hst]
    (try simp! only)
    ((try dsimp only); rw [B_law_steps_b1, O.ssCons]; simp! only)
    intro c hc
    have hca : a ≠ c := ne_of_some hma hc
    have hcb : b ≠ c := ne_of_some hmb hc
    ((try dsimp only); rw [B_law_steps_b1_t1, O.ssCons]; simp! only [List.length_map])
    refine ⟨by omega, by omega, ?_⟩
    unfold rangeL
    simp only [Int.toNat_natCast]
    refine forW_map (f := fun i : Nat => DV.int (0 + (i : Int) * 1)) (fun dn r m => ∃ w2 w3 w4, r = [some (.tup [.tup (sh.names.map DV.str), .lst (sh.rows.map rowD)]), some (.tup (rd.map DV.str)), some (.loc a), some (.loc b), some (.int (0 + (done.length : Int) * 1)), some (.loc c), w2, w3, w4] ∧ m a = some (.lst (st.map DV.str)) ∧ m b = some (.lst (F.map stepD)) ∧ m c = some (.lst ((lFound st ((enumP 0 sh.rows).take dn.length)).map stepD))) ⟨_, _, _, rfl, by rw [put_ne hca]; exact hma, by rw [put_ne hcb]; exact hmb, put_same⟩ ?_ ?_
    · rintro dn j2 rest2 r m e2 ⟨w2, w3, w4, rfl, hma, hmb, hmc⟩ K2 hK2
      obtain ⟨hj, hj3⟩ := range_split e2
      subst hj
      refine ⟨trivial, ?_⟩
      have hr := List.getElem?_eq_getElem hj3
      obtain ⟨row, hrow⟩ : ∃ row, row = sh.rows[dn.length] := ⟨_, rfl⟩
      rw [← hrow] at hr
      have hrm : row ∈ sh.rows := List.mem_of_getElem? hr
      obtain ⟨s, p⟩ := row
      have hlen := ok.len hrm
      simp only at hlen
      have hat : atD (sh.rows.map rowD) (0 + (dn.length : Int) * 1) = some (rowD (s, p)) := by
        rw [show (0 + (dn.length : Int) * 1) = (dn.length : Int) by omega]
        exact atD_nat (by rw [List.getElem?_map, hr]; rfl)
      have hsn := found_snoc (st := st) hr
      (try simp! only)
      ((try dsimp only); rw [B_law_steps_b2, O.ssCons]; simp! only [hat, Option.some.injEq, exists_eq_left', rowD, strT])
      refine ⟨by simp only [List.length_map]; exact Nat.le_trans hlen (by decide), ?_⟩
      rw [← List.map_append]
      refine compW_flt (fun x => decide (x ∉ st)) trivial (fun x _ kk h => ?_) ?_
      · (try simp! only [look_loc hma])
        by_cases hx : x ∈ st <;> simpa [hx] using h
      have hlo : lOne st (s, p) = match (s ++ p).filter fun x => decide (x ∉ st) with
        | [x] => if x ∈ s then some x else none
        | _ => none := rfl
      ((try dsimp only); rw [B_law_steps_b2_t1, O.ssCons]; simp! only [List.length_map])
      generalize (s ++ p).filter (fun x => decide (x ∉ st)) = op at hlo
      match op, hlo with
      | [], hlo =>
        refine iteF (by simp) ?_
        exact hK2 _ _ ⟨_, _, _, rfl, hma, hmb, by rw [List.length_append, List.length_cons, List.length_nil, hsn, hlo]; simpa using hmc⟩
      | x :: y :: t, hlo =>
        refine iteF (by simp; omega) ?_
        exact hK2 _ _ ⟨_, _, _, rfl, hma, hmb, by rw [List.length_append, List.length_cons, List.length_nil, hsn, hlo]; simpa using hmc⟩
      | [x], hlo =>
        refine iteT (by simp) ?_
        (try simp! only [hat, Option.some.injEq, exists_eq_left', rowD, strT])
        by_cases hx : x ∈ s
        · simp only [hx, if_true] at hlo
          (try simp! only [hx, decide_true])
          ((try dsimp only); rw [B_law_steps_b3, O.ssCons]; simp! only [look_loc hmc])
          refine ⟨_, hmc, ?_, ?_⟩
          · rw [List.length_map]
            have h1 := found_len (st := st) (l := (enumP 0 sh.rows).take dn.length)
            have h2 := List.length_take_le dn.length (enumP 0 sh.rows)
            exact Nat.lt_of_le_of_lt (m := 8) (by omega) (by decide)
          · refine hK2 _ _ ⟨_, _, _, rfl, by rw [put_ne hca]; exact hma, by rw [put_ne hcb]; exact hmb, ?_⟩
            rw [put_same, List.length_append, List.length_cons, List.length_nil, hsn, hlo]
            simp [stepD]
        · simp only [hx, if_false] at hlo
          (try simp! only [hx, decide_false])
          exact hK2 _ _ ⟨_, _, _, rfl, hma, hmb, by rw [List.length_append, List.length_cons, List.length_nil, hsn, hlo]; simpa using hmc⟩
    · rintro r m ⟨w2, w3, w4, rfl, hma, hmb, hmc⟩
      refine ⟨trivial, ?_⟩
      rw [List.length_range, List.take_of_length_le (by rw [enumP_len]; exact Nat.le_refl _)] at hmc
      have hh := found_head ok st
      generalize lFound st (enumP 0 sh.rows) = fd at hmc hh
      ((try dsimp only); rw [B_law_steps_b1_t2, O.ssCons]; simp! only [look_loc hmc, ne_nil])
      have hds := depths_steps (l := fd)
      refine ⟨⟨plains_steps, by omega⟩, ?_⟩
      cases fd with
      | nil =>
        have hh : nextS st sh.rows = none := hh.symm
        rw [hh] at hnew
        simp only [Option.toList_none, List.append_nil] at hnew
        refine iteF (by simp) ?_
        refine hK _ _ ⟨_, _, _, _, _, rfl, ?_, ?_⟩ <;> rw [List.length_append, List.length_cons, List.length_nil, hnew]
        · rw [← hst]; exact hma
        · exact hmb
      | cons p t =>
        have hh : nextS st sh.rows = some p := hh.symm
        rw [hh] at hnew
        simp only [Option.toList_some] at hnew
        refine iteT (by simp) ?_
        ((try dsimp only); rw [B_law_steps_b4, O.ssCons]; simp! only [look_loc hmb, look_loc hmc])
        refine ⟨_, hmb, by rw [List.length_map]; exact Nat.lt_of_le_of_lt (m := 8) (by omega) (by decide), ?_⟩
        have g1 : (m.put b (.lst (F.map stepD ++ [stepD p]))) a = some (.lst (st.map DV.str)) := by rw [put_ne hab]; exact hma
        have g2 : (m.put b (.lst (F.map stepD ++ [stepD p]))) c = some (.lst ((p :: t).map stepD)) := by rw [put_ne (Ne.symm hcb)]; exact hmc
        generalize hmm : m.put b (.lst (F.map stepD ++ [stepD p])) = mm at g1 g2
        ((try dsimp only); rw [B_law_steps_b4_t1, O.ssCons]; simp! only [look_loc g1, look_loc g2, stepD])
        refine ⟨_, g1, by rw [List.length_map]; exact Nat.lt_of_le_of_lt hstl (by decide), ?_⟩
        refine hK _ _ ⟨_, _, _, _, _, rfl, ?_, ?_⟩ <;> rw [List.length_append, List.length_cons, List.length_nil, hnew]
        · rw [put_same, hst]
          simp
        · rw [put_ne (Ne.symm hab), ← hmm, put_same]
          simp
  · rintro r m ⟨w1, w2, w3, w4, w5, rfl, hma, hmb⟩
    refine ⟨trivial, ?_⟩
    rw [List.length_range] at hmb
    ((try dsimp only); rw [B_law_steps_t3, O.ssCons]; simp! only)
    rw [O.frzL, hmb]
    exact hq
end LX

set_option linter.all false
set_option maxRecDepth 10000
namespace LX
open DL TB PX MX
variable {G : Nat → Option Fn}
/-! ### the law's own look at steps -/
def lValidS : PSp := fun ds Q _ => ∃ sh rd l, ds = [mdD sh, strT rd, .lst (l.map stepD)] ∧ ShOk sh ∧ rd.length ≤ 100 ∧ l.length ≤ 1000 ∧ (∀ p ∈ l, p.1 < sh.rows.length) ∧ Q (.bl (validL sh.rows rd l))
theorem open_all {r : List S} {st : List S} {x : S} : (r.filter fun o => decide (o ≠ x) && decide (o ∉ st)) = [] ↔ (r.all fun o => decide (o = x) || decide (o ∈ st)) = true := by
  rw [List.filter_eq_nil_iff, List.all_eq_true]
  refine forall_congr' fun o => forall_congr' fun _ => ?_
  by_cases h1 : o = x <;> by_cases h2 : o ∈ st <;> simp [h1, h2]
theorem ne_nil_s {l : List S} : eqv (.lst (l.map DV.str)) (.lst []) = decide (l = []) := by
  rw [ne_nil]
  cases l <;> simp
theorem d_validL : ∀ ds Q E, lValidS ds Q E → rdF G 9 B_law_valid ds Mu.nil (fun d _ => Q d) (fun x _ => E x) := by
  rintro ds Q E ⟨sh, rd, l, rfl, ok, hr, hl, hin, hq⟩
  (simp only [rdF, B_law_valid, List.map_cons, List.map_nil, List.length_cons, List.length_nil, Nat.zero_add, Nat.reduceAdd, Nat.reduceSub, List.replicate_succ, List.replicate_zero, List.cons_append, List.nil_append]; rw [O.ssCons])
  (try simp! only [mdD, strT])
  intro a _
  ((try dsimp only); rw [B_law_valid_t1, O.ssCons]; simp! only)
  refine forW_map (f := stepD) (fun done r m => ∃ w1 w2 w3 w4 w5, r = [some (.tup [.tup (sh.names.map DV.str), .lst (sh.rows.map rowD)]), some (.tup (rd.map DV.str)), some (.lst (l.map stepD)), some (.loc a), w1, w2, w3, w4, w5] ∧ m = Mu.nil.put a (.lst ((rd ++ done.map (·.2)).map DV.str)) ∧ ∀ t, l = done ++ t → validL sh.rows rd l = validL sh.rows (rd ++ done.map (·.2)) t) ⟨none, none, none, none, none, rfl, by simp, fun t h => by rw [h]; simp⟩ ?_ ?_
  · rintro done ⟨n, x⟩ rest r m e ⟨w1, w2, w3, w4, w5, rfl, rfl, hv⟩ K hK
    refine ⟨trivial, ?_⟩
    have hd : done.length ≤ 1000 := by
      have := congrArg List.length e
      simp only [List.length_append, List.length_cons] at this
      omega
    have hn : n < sh.rows.length := hin (n, x) (by rw [e]; simp)
    have hrn := List.getElem?_eq_getElem hn
    obtain ⟨row, hrow⟩ : ∃ row, row = sh.rows[n] := ⟨_, rfl⟩
    rw [← hrow] at hrn
    have hlen := ok.len (List.mem_of_getElem? hrn)
    have hv := hv _ e
    simp only [validL, stepAt_some hrn] at hv
    obtain ⟨s, p⟩ := row
    simp only at hlen
    have hstl : (rd ++ done.map (·.2)).length ≤ 1100 := by rw [List.length_append, List.length_map]; omega
    generalize hgs : rd ++ done.map (fun p : Nat × S => p.2) = st at hv hstl
    have la := look_loc (put_same (m := Mu.nil) (a := a) (o := .lst (st.map DV.str)))
    have hat : atD (sh.rows.map rowD) (n : Int) = some (rowD (s, p)) := atD_nat (by rw [List.getElem?_map, hrn]; rfl)
    (try simp! only [stepD])
    ((try dsimp only); rw [B_law_valid_b1, O.ssCons]; simp! only [hat, Option.some.injEq, exists_eq_left', rowD, strT])
    ((try dsimp only); rw [B_law_valid_b1_t1, O.ssCons]; simp! only [la])
    by_cases h1 : x ∈ st
    · rw [if_pos (by simp [h1])]
      (try simp! only [B_law_valid_b2, rdSs])
      rw [show stepB (s, p) st x = false by simp [stepB, h1], Bool.false_and] at hv
      rw [hv] at hq
      exact hq
    rw [if_neg (by simp [h1])]
    by_cases h2 : x ∈ s
    · rw [if_neg (by simp [h2])]
      ((try dsimp only); rw [B_law_valid_b1_t2, O.ssCons]; simp! only)
      refine ⟨by simp only [List.length_map]; exact Nat.le_trans hlen (by decide), ?_⟩
      rw [← List.map_append]
      refine compW_flt (fun o => decide (o ≠ x) && decide (o ∉ st)) trivial (fun o _ kk h => ?_) ?_
      · (try simp! only [la])
        by_cases ho : o = x
        · simpa [ho] using h
        · by_cases ho2 : o ∈ st
          · simpa [ho, ho2] using h
          · simpa [ho, ho2] using h
      have ho := open_all (r := s ++ p) (st := st) (x := x)
      generalize (s ++ p).filter (fun o => decide (o ≠ x) && decide (o ∉ st)) = op at ho
      have hsb : stepB (s, p) st x = ((s ++ p).all fun o => decide (o = x) || decide (o ∈ st)) := by simp [stepB, h1, h2]
      rw [hsb] at hv
      (try simp! only [ne_nil_s])
      by_cases h3 : op = []
      · rw [if_neg (by simp [h3])]
        rw [ho.mp h3, Bool.true_and] at hv
        ((try dsimp only); rw [B_law_valid_b1_t3, O.ssCons]; simp! only [la])
        refine ⟨_, put_same, by simp only [List.length_map]; exact Nat.lt_of_le_of_lt hstl (by decide), ?_⟩
        refine hK _ _ ⟨_, _, _, _, _, rfl, ?_, fun t h => ?_⟩
        · rw [put_put, ← hgs]
          simp
        · rw [hv]
          have : rest = t := by
            rw [e] at h
            simpa using h
          rw [this, ← hgs]
          simp
      · rw [if_pos (by simp [h3])]
        (try simp! only [B_law_valid_b3, rdSs])
        have : ((s ++ p).all fun o => decide (o = x) || decide (o ∈ st)) = false := by
          cases hb : (s ++ p).all fun o => decide (o = x) || decide (o ∈ st) with
          | false => rfl
          | true => exact absurd (ho.mpr hb) h3
        rw [this, Bool.false_and] at hv
        rw [hv] at hq
        exact hq
    · rw [if_pos (by simp [h2])]
      (try simp! only [B_law_valid_b2, rdSs])
      rw [show stepB (s, p) st x = false by simp [stepB, h2], Bool.false_and] at hv
      rw [hv] at hq
      exact hq
  · rintro r m ⟨w1, w2, w3, w4, w5, rfl, rfl, hv⟩
    refine ⟨trivial, ?_⟩
    ((try dsimp only); rw [B_law_valid_t2, O.ssCons]; simp! only)
    rw [hv [] (by simp)] at hq
    exact hq
/-- steps that are least -/
structure Least (rows : List Row) (rd : List S) (l : List (Nat × S)) (x : S) : Prop where
  last : ∃ i n, l = i ++ [(n, x)]
  val : validL rows rd l = true
  min : ∀ k, k < l.length - 1 → validL rows rd (l.eraseIdx k) = false
theorem valid_range {rows : List Row} : ∀ {st : List S} {l : List (Nat × S)}, validL rows st l = true → ∀ p ∈ l, p.1 < rows.length
  | _, [], _, _, h => by cases h
  | st, (n, x) :: t, h, p, hp => by
    simp only [validL, Bool.and_eq_true] at h
    rcases List.mem_cons.mp hp with rfl | hp
    · have h1 := h.1
      unfold stepAt at h1
      split at h1
      · rename_i r e
        exact (List.getElem?_eq_some_iff.mp e).1
      · cases h1
    · exact valid_range h.2 p hp
structure GL6 (G : Nat → Option Fn) : Prop extends GL5 G where
  lvalid : G 21 = some (.pure lValidS)
def lLeastS : PSp := fun ds Q _ => ∃ sh rd l x, ds = [mdD sh, strT rd, .lst (l.map stepD), .str x] ∧ ShOk sh ∧ rd.length ≤ 100 ∧ l.length ≤ 1000 ∧ Least sh.rows rd l x ∧ Q (.bl true)
theorem d_least (g : GL6 G) : ∀ ds Q E, lLeastS ds Q E → rdF G 5 B_law_least ds Mu.nil (fun d _ => Q d) (fun x _ => E x) := by
  rintro ds Q E ⟨sh, rd, l, x, rfl, ok, hr, hl, ⟨⟨i, n, hin⟩, hv, hm⟩, hq⟩
  have hrg := valid_range hv
  have hds := depths_steps (l := l)
  have hll : l.length = i.length + 1 := by rw [hin]; simp
  (simp only [rdF, B_law_least, List.map_cons, List.map_nil, List.length_cons, List.length_nil, Nat.zero_add, Nat.reduceAdd, Nat.reduceSub, List.replicate_succ, List.replicate_zero, List.cons_append, List.nil_append]; rw [O.ssCons])
  (try simp! only [ne_nil])
  refine ⟨⟨plains_steps, by omega⟩, ?_⟩
  refine iteF (by simp [hin]) ?_
  have hat : atD (l.map stepD) (-1) = some (stepD (n, x)) := by
    unfold atD idx
    rw [if_neg (by decide), if_pos (by rw [List.length_map]; omega)]
    simp only [Option.bind_some, List.length_map]
    rw [show (-1 + (l.length : Int)).toNat = i.length by omega, hin]
    simp
  (try simp! only [hat, Option.some.injEq, exists_eq_left', stepD])
  refine iteF (by simp) ?_
  (try simp! only [callP g.lvalid, mdD, strT])
  refine ⟨sh, rd, l, rfl, ok, hr, hl, hrg, ?_⟩
  rw [hv]
  (try simp! only [Bool.not_true])
  ((try dsimp only); rw [B_law_least_t1, O.ssCons]; simp! only [List.length_map])
  refine ⟨by omega, by omega, ?_⟩
  unfold rangeL
  rw [show ((l.length : Int) - 1).toNat = l.length - 1 by omega]
  refine forW_map (f := fun i : Nat => DV.int (0 + (i : Int) * 1)) (fun done r m => m = Mu.nil ∧ ∃ w, r = [some (.tup [.tup (sh.names.map DV.str), .lst (sh.rows.map rowD)]), some (.tup (rd.map DV.str)), some (.lst (l.map stepD)), some (.str x), w]) ⟨rfl, none, rfl⟩ ?_ ?_
  · rintro done j rest r m e1 ⟨rfl, w, rfl⟩ K hK
    obtain ⟨hj, hj2⟩ := range_split e1
    subst hj
    refine ⟨trivial, ?_⟩
    rw [show (0 + (done.length : Int) * 1) = (done.length : Int) by omega]
    (try simp! only)
    ((try dsimp only); rw [B_law_least_b2, O.ssCons]; simp! only [callP g.lvalid])
    rw [show ((done.length : Int) + 1) = ((done.length + 1 : Nat) : Int) by omega]
    simp only [cut_take, cut_drop, O.binAL, ← List.map_take, ← List.map_drop, ← List.map_append, ← List.eraseIdx_eq_take_drop_succ]
    refine ⟨by simp only [List.length_map, List.length_take, List.length_drop]; exact Nat.le_trans (m := 2000) (by omega) (by decide), ?_⟩
    refine ⟨sh, rd, _, rfl, ok, hr, Nat.le_trans (List.length_eraseIdx_le _ _) hl, fun p hp => hrg p (List.mem_of_mem_eraseIdx hp), ?_⟩
    rw [hm _ hj2]
    (try simp! only)
    exact hK _ _ ⟨rfl, _, rfl⟩
  · rintro r m ⟨rfl, w, rfl⟩
    refine ⟨trivial, ?_⟩
    ((try dsimp only); rw [B_law_least_t2, O.ssCons]; simp! only)
    exact hq
end LX

set_option linter.all false
namespace MX
open DL PX LX
theorem valid_put {rows : List Row} {st : List S} {A R R' : List (Nat × S)} {a : Nat × S} (h : validL rows st (A ++ a :: R) = true) (hs : R'.Sublist R) (h' : validL rows st (A ++ R') = true) : validL rows st (A ++ a :: R') = true := by
  obtain ⟨nd, nn⟩ := valid_fresh h
  rw [valid_app, Bool.and_eq_true] at h h'
  have h1 := h.2
  rw [show a :: R = [a] ++ R from rfl, valid_app, Bool.and_eq_true] at h1
  rw [valid_app, h.1, Bool.true_and, show a :: R' = [a] ++ R' from rfl, valid_app, h1.1, Bool.true_and]
  refine valid_mono (fun x hx => List.mem_append_left _ hx) (fun x hx hm => ?_) h'.2
  have hxR : x ∈ R.map (·.2) := (hs.map _).subset hx
  rw [List.map_append, List.map_cons] at nd nn
  rcases List.mem_append.mp hm with hm | hm
  · rcases List.mem_append.mp hm with hm | hm
    · exact nn x (List.mem_append_right _ (List.mem_cons_of_mem _ hxR)) hm
    · rw [List.nodup_append] at nd
      exact nd.2.2 x hm x (List.mem_cons_of_mem _ hxR) rfl
  · rw [List.map_cons, List.map_nil, List.mem_singleton] at hm
    rw [List.nodup_append, List.nodup_cons] at nd
    exact nd.2.1.1 (hm ▸ hxR)
/-- what is left behind d tries -/
structure Pr (rows : List Row) (rd : List S) (q : List (Nat × S)) (x : S) (t : Nat) : Prop where
  last : ∃ i n, q = i ++ [(n, x)]
  val : validL rows rd q = true
  len : t ≤ q.length - 1
  min : ∀ k, t ≤ k → k < q.length - 1 → validL rows rd (q.eraseIdx k) = false
theorem pr_step {rows : List Row} {rd : List S} {q : List (Nat × S)} {x : S} {t : Nat} (h : Pr rows rd q x (t + 1)) : Pr rows rd (if validL rows rd (q.eraseIdx t) = true then q.eraseIdx t else q) x t := by
  obtain ⟨⟨i, n, hq⟩, hv, hl, hm⟩ := h
  have hql : q.length = i.length + 1 := by rw [hq]; simp
  cases e : validL rows rd (q.eraseIdx t) with
  | false =>
    rw [if_neg (by decide)]
    refine ⟨⟨i, n, hq⟩, hv, by omega, fun k h1 h2 => ?_⟩
    by_cases hk : k = t
    · rw [hk]; exact e
    · exact hm k (by omega) h2
  | true =>
    rw [if_pos rfl]
    have hlen : (q.eraseIdx t).length = q.length - 1 := by rw [List.length_eraseIdx, if_pos (by omega)]
    refine ⟨⟨i.eraseIdx t, n, ?_⟩, e, by omega, fun k h1 h2 => ?_⟩
    · rw [hq, List.eraseIdx_append_of_lt_length (by omega)]
    · rw [hlen] at h2
      have hk := hm (k + 1) (by omega) (by omega)
      have hs : q = q.take t ++ q[t] :: q.drop (t + 1) := by
        rw [List.getElem_cons_drop, List.take_append_drop]
      have htl : (q.take t).length = t := by rw [List.length_take]; omega
      cases e2 : validL rows rd ((q.eraseIdx t).eraseIdx k) with
      | false => rfl
      | true =>
        rw [List.eraseIdx_eq_take_drop_succ q t, List.eraseIdx_append_of_length_le (by omega), htl] at e2
        have hv' := hv
        rw [hs] at hv'
        have := valid_put hv' (List.eraseIdx_sublist (q.drop (t + 1)) (k - t)) e2
        rw [hs, List.eraseIdx_append_of_length_le (by omega), htl, show k + 1 - t = (k - t) + 1 by omega, List.eraseIdx_cons_succ] at hk
        rw [this] at hk
        cases hk
theorem prD_pr {rows : List Row} {rd : List S} {f : List (Nat × S)} {x : S} (h : Pr rows rd f x (f.length - 1)) : ∀ d, d ≤ f.length - 1 → Pr rows rd (prD rows rd (f.length - 2) d f) x (f.length - 1 - d)
  | 0, _ => h
  | d + 1, hd => by
    have h1 := prD_pr h d (by omega)
    rw [show f.length - 1 - d = (f.length - 1 - (d + 1)) + 1 by omega] at h1
    have h2 := pr_step h1
    simp only [prD]
    rw [show f.length - 2 - d = f.length - 1 - (d + 1) by omega]
    exact h2
theorem least_ok {sh : Sh} (ok : ShOk sh) {rd : List S} {x : S} (hx : x ∈ (stepsOf sh rd).map (·.2)) : Least sh.rows rd (stepsTo sh rd x) x := by
  have hv := steps_valid ok sh.names.length rd
  have hv : validL sh.rows rd (stepsOf sh rd) = true := hv
  unfold stepsTo
  generalize stepsOf sh rd = F at hx hv
  have hlt : (F.findIdx fun p => decide (p.2 = x)) < F.length := by
    obtain ⟨p, hp, e⟩ := List.mem_map.mp hx
    exact List.findIdx_lt_length_of_exists ⟨p, hp, by simp [e]⟩
  have hat := List.findIdx_getElem (w := hlt)
  generalize (F.findIdx fun p => decide (p.2 = x)) = j at hlt hat
  have hf : F.take (j + 1) = F.take j ++ [(F[j].1, x)] := by
    have e : F[j].2 = x := by simpa using hat
    rw [List.take_succ, List.getElem?_eq_getElem hlt, ← e]
    rfl
  have hfv : validL sh.rows rd (F.take (j + 1)) = true := by
    have := hv
    rw [← List.take_append_drop (j + 1) F, valid_app, Bool.and_eq_true] at this
    exact this.1
  have hp : Pr sh.rows rd (F.take (j + 1)) x ((F.take (j + 1)).length - 1) := ⟨⟨_, _, hf⟩, hfv, Nat.le_refl _, fun k h1 h2 => by omega⟩
  have h := prD_pr hp _ (Nat.le_refl _)
  rw [Nat.sub_self] at h
  exact ⟨h.last, h.val, fun k hk => h.min k (Nat.zero_le _) hk⟩
theorem to_len {sh : Sh} (ok : ShOk sh) (rd : List S) (x : S) : (stepsTo sh rd x).length ≤ 8 := by
  unfold stepsTo
  refine Nat.le_trans (prD_len _ _ _ _ _) ?_
  have := stepsOf_len ok rd
  rw [List.length_take]
  omega
theorem mem_reached {sh : Sh} {rd : List S} {x : S} : x ∈ reachedL sh rd ↔ x ∈ rd ∨ x ∈ (stepsOf sh rd).map (·.2) := by
  unfold reachedL sortS
  rw [List.mem_mergeSort, List.mem_append]
end MX

set_option linter.all false
set_option maxRecDepth 10000
namespace LX
open DL TB PX MX
variable {G : Nat → Option Fn}
/-! ### what is told -/
inductive Out where
  | val (d : DV) | steps (l : List (Nat × S)) | err (c : Nat) (d : DV)
def ofT : DV → List S
  | .tup xs => (strs? xs).getD []
  | _ => []
theorem ofT_strT {l : List S} : ofT (strT l) = l := by
  unfold ofT strT
  simp only [strs_map, Option.getD_some]
def stepsToO (sh : Sh) (rd : List S) (x : S) : Out :=
  if x ∈ rd then .steps [] else if x ∈ (stepsOf sh rd).map (·.2) then .steps (stepsTo sh rd x) else .err 12 (.str x)
def outcome (w : Nat) (sh : Sh) (v : DV) (x : S) : Out :=
  if isPartB sh.names v = false then .err 4 v
  else if w = 0 then .steps (stepsOf sh (ofT v))
  else if w = 1 then .val (strT (reachedL sh (ofT v)))
  else if x ∉ sh.names then .err 2 (.str x)
  else if w = 2 then .val (.bl (decide (x ∈ reachedL sh (ofT v))))
  else stepsToO sh (ofT v) x
def gives (o : Out) (m : Mu) (k : Post) (e : XPost) : Prop :=
  match o with
  | .val d => ∀ m', Kp m m' → k d m'
  | .steps l => ∀ a m', m a = none → Kp m m' → m' a = some (.lst (l.map stepD)) → k (.loc a) m'
  | .err c d => ∀ m', Kp m m' → e ⟨c, d⟩ m'
structure GL7 (G : Nat → Option Fn) : Prop extends GL6 G where
  always : G 22 = some (.pure alwaysS)
  stepsTo : G 23 = some (.gen stepsToS)
  kFrom : G 25 = some (.gen (kwG [1, 0] 2 stepsFromS))
  kReached : G 26 = some (.pure (kwP [1, 0] 2 reachedS))
  kAlways : G 27 = some (.pure (kwP [2, 1, 0] 3 alwaysS))
  kTo : G 28 = some (.gen (kwG [2, 1, 0] 3 stepsToS))
section
variable {sh : Sh} {v : DV} {x : S} {m : Mu} {k : Post} {e : XPost} (ok : ShOk sh) (hv : vOk v)
include ok hv
theorem give0 (h : gives (outcome 0 sh v x) m k e) : stepsFromS [shD sh, v] m k e := by
  refine ⟨sh, v, rfl, ok, hv, fun hp => ?_, ?_⟩
  · rw [outcome, if_pos hp] at h
    exact h m Kp.rfl'
  · rintro rd rfl hp
    rw [outcome, if_neg (by rw [hp]; decide), if_pos rfl, ofT_strT] at h
    exact h
theorem give1 {f : DV → Prop} {g : Exc → Prop} (h : gives (outcome 1 sh v x) m (fun d m' => m' = m → f d) (fun y m' => m' = m → g y)) : reachedS [shD sh, v] f g := by
  refine ⟨sh, v, rfl, ok, hv, fun hp => ?_, ?_⟩
  · rw [outcome, if_pos hp] at h
    exact h m Kp.rfl' rfl
  · rintro rd rfl hp
    rw [outcome, if_neg (by rw [hp]; decide), if_neg (by decide), if_pos rfl, ofT_strT] at h
    exact h m Kp.rfl' rfl
theorem give2 {f : DV → Prop} {g : Exc → Prop} (h : gives (outcome 2 sh v x) m (fun d m' => m' = m → f d) (fun y m' => m' = m → g y)) : alwaysS [shD sh, v, .str x] f g := by
  refine ⟨sh, v, x, rfl, ok, hv, fun hp => ?_, ?_⟩
  · rw [outcome, if_pos hp] at h
    exact h m Kp.rfl' rfl
  · rintro rd rfl hp
    rw [outcome, if_neg (by rw [hp]; decide), if_neg (by decide), if_neg (by decide), ofT_strT] at h
    refine ⟨fun hx => ?_, fun hx => ?_⟩
    · rw [if_pos hx] at h
      exact h m Kp.rfl' rfl
    · rw [if_neg (by simp [hx]), if_pos rfl] at h
      exact h m Kp.rfl' rfl
theorem give3 (h : gives (outcome 3 sh v x) m k e) : stepsToS [shD sh, v, .str x] m k e := by
  refine ⟨sh, v, x, rfl, ok, hv, fun hp => ?_, ?_⟩
  · rw [outcome, if_pos hp] at h
    exact h m Kp.rfl'
  · rintro rd rfl hp
    rw [outcome, if_neg (by rw [hp]; decide), if_neg (by decide), if_neg (by decide), ofT_strT] at h
    refine ⟨fun hx => ?_, fun hx => ?_⟩
    · rw [if_pos hx] at h
      exact h m Kp.rfl'
    · rw [if_neg (by simp [hx]), if_neg (by decide), stepsToO] at h
      refine ⟨fun hr => ?_, fun hr => ?_⟩
      · rw [if_pos hr] at h
        exact h
      · rw [if_neg hr] at h
        refine ⟨fun hs => ?_, fun hs => ?_⟩
        · rw [if_neg hs] at h
          exact h
        · rw [if_pos hs] at h
          exact h
end
theorem gives_imp {o : Out} {m : Mu} {k k' : Post} {e e' : XPost} (h : gives o m k e) (hk : ∀ d m', k d m' → k' d m') (he : ∀ d m', e d m' → e' d m') : gives o m k' e' := by
  cases o with
  | val d => exact fun m' h1 => hk _ _ (h m' h1)
  | steps l => exact fun a m' h1 h2 h3 => hk _ _ (h a m' h1 h2 h3)
  | err c d => exact fun m' h1 => he _ _ (h m' h1)
def namedS : FSp := fun ds m k e => ∃ (w : Nat) (sh : Sh) (v : DV) (x : S), ds = [.int (w : Int), shD sh, v, .str x] ∧ w < 4 ∧ ShOk sh ∧ vOk v ∧ gives (outcome w sh v x) m k e
theorem nl1 {sh : Sh} {v : DV} (hv : vOk v) : [v, shD sh].any isLoc = false := by
  simp [hv.nl, il_shD]
theorem d_named (g : GL7 G) : ∀ ds m k e, namedS ds m k e → rdF G 4 B_law_named ds m k e := by
  rintro ds m k e ⟨w, sh, v, x, rfl, hw, ok, hv, h⟩
  (simp only [rdF, B_law_named, List.map_cons, List.map_nil, List.length_cons, List.length_nil, Nat.zero_add, Nat.reduceAdd, Nat.reduceSub, List.replicate_succ, List.replicate_zero, List.cons_append, List.nil_append]; rw [O.ssCons])
  have h4 : w = 0 ∨ w = 1 ∨ w = 2 ∨ w = 3 := by omega
  rcases h4 with rfl | rfl | rfl | rfl
  · (try simp! only)
    refine iteT (by decide) ?_
    (try simp! only [B_law_named_b1, rdSs, callG g.kFrom])
    exact ⟨rfl, give0 ok hv h⟩
  · (try simp! only)
    refine iteF (by decide) ?_
    ((try dsimp only); rw [B_law_named_t1, O.ssCons]; simp! only)
    refine iteT (by decide) ?_
    (try simp! only [B_law_named_b2, rdSs, callP g.kReached, hv.look, hv.nl, look_shD, il_shD])
    refine ⟨rfl, give1 ok hv (m := m) (x := x) (gives_imp h (fun d m' q e => ?_) fun d m' q e => ?_)⟩
    · subst e
      exact q
    · subst e
      exact q
  · (try simp! only)
    refine iteF (by decide) ?_
    ((try dsimp only); rw [B_law_named_t1, O.ssCons]; simp! only)
    refine iteF (by decide) ?_
    ((try dsimp only); rw [B_law_named_t2, O.ssCons]; simp! only)
    refine iteT (by decide) ?_
    (try simp! only [B_law_named_b3, rdSs, callP g.kAlways, hv.look, hv.nl, look_shD, il_shD])
    refine ⟨rfl, give2 ok hv (m := m) (gives_imp h (fun d m' q e => ?_) fun d m' q e => ?_)⟩
    · subst e
      exact q
    · subst e
      exact q
  · (try simp! only)
    refine iteF (by decide) ?_
    ((try dsimp only); rw [B_law_named_t1, O.ssCons]; simp! only)
    refine iteF (by decide) ?_
    ((try dsimp only); rw [B_law_named_t2, O.ssCons]; simp! only)
    refine iteF (by decide) ?_
    ((try dsimp only); rw [B_law_named_t3, O.ssCons]; simp! only [callG g.kTo])
    exact ⟨rfl, give3 ok hv h⟩
def tagT : S := [116, 111, 108, 100]
def tagOf (c : Nat) : S := if c = 4 then [115, 101, 116] else if c = 2 then [117, 110, 107, 110, 111, 119, 110] else [102, 97, 114]
def tgives (o : Out) (m : Mu) (k : Post) : Prop :=
  match o with
  | .val d => ∀ m', Kp m m' → k (.tup [.str tagT, d]) m'
  | .steps l => ∀ a m', m a = none → Kp m m' → m' a = some (.lst (l.map stepD)) → k (.tup [.str tagT, .loc a]) m'
  | .err c d => ∀ m', Kp m m' → k (.tup [.str (tagOf c), d]) m'
structure GL8 (G : Nat → Option Fn) : Prop extends GL7 G where
  named : G 24 = some (.gen namedS)
def toldS : FSp := fun ds m k _ => ∃ (w : Nat) (sh : Sh) (v : DV) (x : S), ds = [.int (w : Int), shD sh, v, .str x] ∧ w < 8 ∧ ShOk sh ∧ vOk v ∧ tgives (outcome (w % 4) sh v x) m k
theorem out_err {w : Nat} {sh : Sh} {v : DV} {x : S} {c : Nat} {d : DV} (h : outcome w sh v x = .err c d) : c = 4 ∨ c = 2 ∨ c = 12 := by
  unfold outcome stepsToO at h
  repeat' split at h
  all_goals first | (cases h; done) | (cases h; simp)
theorem told_in (g : GL8 G) {D : Ends} {w : Nat} {sh : Sh} {v : DV} {x : S} {m : Mu} (hw : w < 8) (ok : ShOk sh) (hv : vOk v) (h : gives (outcome (w % 4) sh v x) m (fun d m1 => D.rt (.tup [.str tagT, d]) m1) (fun y m1 => D.ex y [some (.int (w : Int)), some (shD sh), some v, some (.str x), none] m1)) : rdSs G B_law_told_b1 D [some (.int (w : Int)), some (shD sh), some v, some (.str x), none] m := by
  have hl : (2 : Nat) ≤ LINE := by decide
  have h8 : w = 0 ∨ w = 1 ∨ w = 2 ∨ w = 3 ∨ (4 ≤ w) := by omega
  unfold tagT at h
  rcases h8 with rfl | rfl | rfl | rfl | h8
  · ((try dsimp only); rw [B_law_told_b1, O.ssCons]; simp! only)
    refine iteT (by decide) ?_
    (try simp! only [B_law_told_b2, rdSs, callG g.stepsFrom])
    exact give0 ok hv (x := x) (gives_imp h (fun d m' q => q) fun d m' q => q)
  · ((try dsimp only); rw [B_law_told_b1, O.ssCons]; simp! only)
    refine iteF (by decide) ?_
    ((try dsimp only); rw [B_law_told_b1_t1, O.ssCons]; simp! only)
    refine iteT (by decide) ?_
    (try simp! only [B_law_told_b3, rdSs, callP g.reached, hv.look, hv.nl, look_shD, il_shD])
    refine give1 ok hv (m := m) (x := x) (gives_imp h (fun d m' q e => ?_) fun d m' q e => ?_)
    · subst e
      exact q
    · subst e
      exact q
  · ((try dsimp only); rw [B_law_told_b1, O.ssCons]; simp! only)
    refine iteF (by decide) ?_
    ((try dsimp only); rw [B_law_told_b1_t1, O.ssCons]; simp! only)
    refine iteF (by decide) ?_
    ((try dsimp only); rw [B_law_told_b1_t2, O.ssCons]; simp! only)
    refine iteT (by decide) ?_
    (try simp! only [B_law_told_b4, rdSs, callP g.always, hv.look, hv.nl, look_shD, il_shD])
    refine give2 ok hv (m := m) (gives_imp h (fun d m' q e => ?_) fun d m' q e => ?_)
    · subst e
      exact q
    · subst e
      exact q
  · ((try dsimp only); rw [B_law_told_b1, O.ssCons]; simp! only)
    refine iteF (by decide) ?_
    ((try dsimp only); rw [B_law_told_b1_t1, O.ssCons]; simp! only)
    refine iteF (by decide) ?_
    ((try dsimp only); rw [B_law_told_b1_t2, O.ssCons]; simp! only)
    refine iteF (by decide) ?_
    ((try dsimp only); rw [B_law_told_b1_t3, O.ssCons]; simp! only)
    refine iteT (by decide) ?_
    (try simp! only [B_law_told_b5, rdSs, callG g.stepsTo])
    exact give3 ok hv (gives_imp h (fun d m' q => q) fun d m' q => q)
  · ((try dsimp only); rw [B_law_told_b1, O.ssCons]; simp! only)
    refine iteF (by simp; omega) ?_
    ((try dsimp only); rw [B_law_told_b1_t1, O.ssCons]; simp! only)
    refine iteF (by simp; omega) ?_
    ((try dsimp only); rw [B_law_told_b1_t2, O.ssCons]; simp! only)
    refine iteF (by simp; omega) ?_
    ((try dsimp only); rw [B_law_told_b1_t3, O.ssCons]; simp! only)
    refine iteF (by simp; omega) ?_
    ((try dsimp only); rw [B_law_told_b1_t4, O.ssCons]; simp! only [callG g.named])
    refine ⟨w - 4, sh, v, x, by rw [show ((w : Int) - 4) = ((w - 4 : Nat) : Int) by omega], by omega, ok, hv, ?_⟩
    rw [show w - 4 = w % 4 by omega]
    exact gives_imp h (fun d m' q => q) fun d m' q => q
theorem d_told (g : GL8 G) : ∀ ds m k e, toldS ds m k e → rdF G 5 B_law_told ds m k e := by
  rintro ds m k e ⟨w, sh, v, x, rfl, hw, ok, hv, h⟩
  (simp only [rdF, B_law_told, List.map_cons, List.map_nil, List.length_cons, List.length_nil, Nat.zero_add, Nat.reduceAdd, Nat.reduceSub, List.replicate_succ, List.replicate_zero, List.cons_append, List.nil_append]; rw [O.ssCons])
  (try simp! only)
  refine told_in g hw ok hv ?_
  cases ho : outcome (w % 4) sh v x with
  | val d => rw [ho] at h; exact h
  | steps l => rw [ho] at h; exact h
  | err c d =>
    rw [ho] at h
    intro m' kp
    have h1 := h m' kp
    rcases out_err ho with rfl | rfl | rfl
    · exact ⟨⟨by simp, by simp⟩, h1⟩
    · exact ⟨⟨by simp, by simp⟩, h1⟩
    · exact ⟨⟨by simp, by simp⟩, h1⟩
end LX

set_option linter.all false
set_option maxRecDepth 10000
namespace LX
open DL TB PX MX
variable {G : Nat → Option Fn}
/-! ### what is due -/
def tagL : S := [108, 101, 97, 115, 116]
def dueOf (w : Nat) (sh : Sh) (v : DV) (x : S) : DV :=
  match outcome w sh v x with
  | .val d => .tup [.str tagT, d]
  | .err c d => .tup [.str (tagOf c), d]
  | .steps l => if w = 3 ∧ x ∉ ofT v then .tup [.str tagL, .str x] else .tup [.str tagT, .lst (l.map stepD)]
theorem eqvs_str_inv' : ∀ {xs : List DV} {l : List S}, eqvs (l.map DV.str) xs = true → xs = l.map DV.str
  | [], [], _ => rfl
  | [], _ :: _, h => by simp [eqvs] at h
  | _ :: _, [], h => by simp [eqvs] at h
  | x :: r, y :: t, h => by
    rw [List.map_cons, eqvs_cons, Bool.and_eq_true] at h
    rw [eqvs_str_inv' h.2, List.map_cons]
    congr 1
    have h1 := h.1
    cases x <;> first | (simp [eqv] at h1; done) | skip
    rw [eqv_strD, decide_eq_true_eq] at h1
    rw [h1]
theorem part_keep {names : List S} {xs : List DV} (hn : names.Nodup) : (((setsL names).map strT).any fun z => eqv z (.tup xs)) = isPartB names (.tup xs) := by
  cases hp : isPartB names (.tup xs) with
  | true =>
    obtain ⟨l, e, hl⟩ := isPart_inv hp
    rw [e, any_strT]
    have : l ∈ setsL names := mem_sets.mpr (by rw [hl]; exact List.filter_sublist)
    simp [this]
  | false =>
    cases ha : ((setsL names).map strT).any fun z => eqv z (.tup xs) with
    | false => rfl
    | true =>
      rw [List.any_eq_true] at ha
      obtain ⟨z, hz, hq⟩ := ha
      obtain ⟨s, hs, rfl⟩ := List.mem_map.mp hz
      unfold strT at hq
      rw [eqv_tup] at hq
      have e := eqvs_str_inv' hq
      have hsub := mem_sets.mp hs
      have : isPartB names (strT s) = true := by
        rw [isPart_tup]
        simpa using sub_filter hsub hn
      rw [e] at hp
      rw [show DV.tup (s.map DV.str) = strT s from rfl, this] at hp
      cases hp
structure GL9 (G : Nat → Option Fn) : Prop extends GL8 G where
  lreached : G 29 = some (.pure lReachedS)
  lsteps : G 30 = some (.pure lStepsS)
def dueS : PSp := fun ds Q _ => ∃ (w : Nat) (sh : Sh) (v : DV) (x : S), ds = [.int (w : Int), mdD sh, v, .str x] ∧ w < 4 ∧ MdOk sh ∧ vOk v ∧ Q (dueOf w sh v x)
theorem d_due (g : GL9 G) : ∀ ds Q E, dueS ds Q E → rdF G 5 B_law_due ds Mu.nil (fun d _ => Q d) (fun x _ => E x) := by
  rintro ds Q E ⟨w, sh, v, x, rfl, hw, mok, hv, hq⟩
  have ok := mok.sh
  (simp only [rdF, B_law_due, mdD, List.map_cons, List.map_nil, List.length_cons, List.length_nil, Nat.zero_add, Nat.reduceAdd, Nat.reduceSub, List.replicate_succ, List.replicate_zero, List.cons_append, List.nil_append]; rw [O.ssCons])
  (try simp! only [isiV hv (k := .tuple) rfl, hv.look, hv.nl, callP g.sets, strT])
  have hno : isPartB sh.names v = false → dueOf w sh v x = .tup [.str [115, 101, 116], v] := fun h => by
    unfold dueOf outcome
    rw [if_pos h]
    rfl
  cases hk : kindB .tuple v with
  | false =>
    (try simp! only [Bool.not_false, B_law_due_b1, rdSs])
    rw [hno (isPart_no hk)] at hq
    exact hq
  | true =>
    obtain ⟨xs, rfl⟩ := tup_of hk
    obtain ⟨hp, hd⟩ : plains xs = true ∧ depths xs ≤ 39 := by
      rcases hv with h | ⟨h1, h2⟩
      · cases h
      · rw [plain_tup] at h1
        rw [depth_tup] at h2
        exact ⟨h1, by omega⟩
    (try simp! only [Bool.not_true])
    refine ⟨sh.names, rfl, ok.n8, ?_⟩
    (try simp! only [part_keep ok.nd, hp])
    refine ⟨⟨plains_map (fun s => by unfold strT; rw [plain_tup, plains_strs]) _, by omega, Nat.le_trans (depths_map (n := 1) (fun s => by unfold strT; rw [depth_tup, depths_strs]; decide) _) (by decide)⟩, ?_⟩
    cases hpt : isPartB sh.names (.tup xs) with
    | false =>
      (try simp! only [Bool.not_false, B_law_due_b1, rdSs])
      rw [hno hpt] at hq
      exact hq
    | true =>
      obtain ⟨rd, e, hrf⟩ := isPart_inv hpt
      rw [e] at hpt hq ⊢
      have hrl : rd.length ≤ 8 := Nat.le_trans (part_len hrf) ok.n8
      have hre := reach_eq ok hrf
      unfold dueOf outcome at hq
      rw [if_neg (by rw [hpt]; decide), ofT_strT] at hq
      (try simp! only [Bool.not_true])
      ((try dsimp only); rw [B_law_due_t1, O.ssCons]; simp! only [strT])
      by_cases hxn : 1 < w ∧ x ∉ sh.names
      · rw [if_neg (by omega), if_neg (by omega), if_pos hxn.2] at hq
        refine iteT (by simp; omega) ?_
        refine iteT (by simp [hxn.2]) ?_
        (try simp! only [B_law_due_b2, rdSs])
        exact hq
      · have hgo : rdSs G B_law_due_t2 { nx := fun x m1 => Q DV.non, rt := fun d x => Q d, bk := fun x x_1 => False, ct := fun x x_1 => False, ex := fun x x_1 m => E x } [some (.int (w : Int)), some (.tup [.tup (sh.names.map DV.str), .lst (sh.rows.map rowD)]), some (.tup (rd.map DV.str)), some (.str x), none] Mu.nil := by
          ((try dsimp only); rw [B_law_due_t2, O.ssCons]; simp! only [callP g.lreached])
          refine ⟨sh, rd, rfl, ok, hrl, ?_⟩
          rw [hre]
          (try simp! only [strT])
          have h4 : w = 0 ∨ w = 1 ∨ w = 2 ∨ w = 3 := by omega
          rcases h4 with rfl | rfl | rfl | rfl
          · ((try dsimp only); rw [B_law_due_t3, O.ssCons]; simp! only)
            refine iteT (by decide) ?_
            (try simp! only [B_law_due_b3, rdSs, callP g.lsteps])
            exact ⟨sh, rd, rfl, ok, hrl, hq⟩
          · ((try dsimp only); rw [B_law_due_t3, O.ssCons]; simp! only)
            refine iteF (by decide) ?_
            ((try dsimp only); rw [B_law_due_t4, O.ssCons]; simp! only)
            refine iteT (by decide) ?_
            (try simp! only [B_law_due_b4, rdSs])
            exact hq
          · have hx : x ∈ sh.names := by
              by_cases h : x ∈ sh.names
              · exact h
              · exact absurd ⟨by decide, h⟩ hxn
            rw [if_neg (by decide), if_neg (by decide), if_neg (by simp [hx])] at hq
            ((try dsimp only); rw [B_law_due_t3, O.ssCons]; simp! only)
            refine iteF (by decide) ?_
            ((try dsimp only); rw [B_law_due_t4, O.ssCons]; simp! only)
            refine iteF (by decide) ?_
            ((try dsimp only); rw [B_law_due_t5, O.ssCons]; simp! only)
            refine iteT (by decide) ?_
            (try simp! only [B_law_due_b5, rdSs])
            exact hq
          · have hx : x ∈ sh.names := by
              by_cases h : x ∈ sh.names
              · exact h
              · exact absurd ⟨by decide, h⟩ hxn
            rw [if_neg (by decide), if_neg (by decide), if_neg (by simp [hx]), if_neg (by decide), stepsToO] at hq
            ((try dsimp only); rw [B_law_due_t3, O.ssCons]; simp! only)
            refine iteF (by decide) ?_
            ((try dsimp only); rw [B_law_due_t4, O.ssCons]; simp! only)
            refine iteF (by decide) ?_
            ((try dsimp only); rw [B_law_due_t5, O.ssCons]; simp! only)
            refine iteF (by decide) ?_
            ((try dsimp only); rw [B_law_due_t6, O.ssCons]; simp! only)
            by_cases hr : x ∈ rd
            · rw [if_pos hr] at hq
              simp only [hr, not_true, and_false, if_false] at hq
              refine iteT (by simp [hr]) ?_
              (try simp! only [B_law_due_b6, rdSs])
              exact hq
            · rw [if_neg hr] at hq
              refine iteF (by simp [hr]) ?_
              ((try dsimp only); rw [B_law_due_t7, O.ssCons]; simp! only)
              by_cases hs : x ∈ (stepsOf sh rd).map (·.2)
              · rw [if_pos hs] at hq
                simp only [hr, not_false_eq_true, and_self, if_true] at hq
                refine iteF (by simp [mem_reached.mpr (.inr hs)]) ?_
                ((try dsimp only); rw [B_law_due_t8, O.ssCons]; simp! only)
                exact hq
              · rw [if_neg hs] at hq
                have hnm : x ∉ reachedL sh rd := fun h => (mem_reached.mp h).elim hr hs
                refine iteT (by simp [hnm]) ?_
                (try simp! only [B_law_due_b7, rdSs])
                exact hq
        by_cases h1 : 1 < w
        · have hx : x ∈ sh.names := by
            by_cases h : x ∈ sh.names
            · exact h
            · exact absurd ⟨h1, h⟩ hxn
          refine iteT (by simp; omega) (iteF (by simp [hx]) ?_)
          exact hgo
        · refine iteF (by simp; omega) ?_
          exact hgo
end LX

set_option linter.all false
set_option maxRecDepth 10000
namespace DL
mutual
theorem eqv_refl : ∀ x : DV, plain x = true → eqv x x = true
  | .non, _ => rfl
  | .bl b, _ => by rw [eqv_bl]; simp
  | .int b, _ => by rw [eqv_int]; simp
  | .str b, _ => by rw [eqv_str]; simp
  | .tup xs, h => by rw [eqv_tup]; rw [plain_tup] at h; exact eqvs_refl xs h
  | .lst xs, h => by rw [eqv_lst]; rw [plain_lst] at h; exact eqvs_refl xs h
  | .dic _, h => by simp [plain] at h
  | .dit _, h => by simp [plain] at h
  | .ins _ _, h => by simp [plain] at h
  | .loc _, h => by simp [plain] at h
  | .scr _, h => by simp [plain] at h
theorem eqvs_refl : ∀ x : List DV, plains x = true → eqvs x x = true
  | [], _ => eqvs_nil
  | x :: t, h => by
    rw [plains_cons, Bool.and_eq_true] at h
    rw [eqvs_cons, eqv_refl x h.1, eqvs_refl t h.2]
    rfl
end
theorem leaf_refl {x : DV} (h : plain x = true) (hd : depth x ≤ 20) : leafT x x := ⟨h, h, eqv_refl x h, hd, hd⟩
theorem EqT.leaf {m : Mu} {n : Nat} {x y : DV} (h : leafT x y) : EqT m n x y := by
  cases n with
  | zero => exact h
  | succ n => exact .inl h
/-- plain of small depth, or {} -/
def vSm (v : DV) : Prop := v = .dic [] ∨ (plain v = true ∧ depth v ≤ 5)
theorem vSm.ok {v : DV} (h : vSm v) : vOk v := h.imp id fun h => ⟨h.1, by omega⟩
theorem EqT.sm {m : Mu} {n : Nat} {v : DV} (h : vSm v) : EqT m (n + 1) v v := by
  rcases h with rfl | h
  · exact .inr trivial
  · exact .inl (leaf_refl h.1 (by omega))
theorem EqT.pair {m : Mu} {n : Nat} {t : S} {x y : DV} (h : EqT m n x y) : EqT m (n + 1) (.tup [.str t, x]) (.tup [.str t, y]) :=
  .inr ⟨EqT.leaf (leaf_refl rfl (by rw [depth_str]; decide)), h, trivial⟩
theorem EqT.lst {m : Mu} {n a : Nat} {l : List DV} (hm : m a = some (.lst l)) (hp : plains l = true) (hd : depths l ≤ 19) : EqT m (n + 1) (.loc a) (.lst l) := by
  refine .inr ?_
  show nodeT (EqT m n) (look m (.loc a)) (.lst l)
  rw [look_loc hm]
  show all2 (EqT m n) l l
  clear hm
  induction l with
  | nil => exact trivial
  | cons x t ih =>
    rw [plains_cons, Bool.and_eq_true] at hp
    rw [depths_cons] at hd
    exact ⟨EqT.leaf (leaf_refl hp.1 (by omega)), ih hp.2 (by omega)⟩
end DL
namespace LX
open DL TB PX MX
variable {G : Nat → Option Fn}
theorem StB.kp {m m' : Mu} {a b n : Nat} (h : StB m a b n) (k : Kp m m') : StB m' a b n := by
  obtain ⟨h1, p, j, cs, h2, h3, h4, h5⟩ := h
  exact ⟨h1, p, j, cs, h2, k _ _ h3, k _ _ h4, h5⟩
theorem Dr.kp {m m1 m2 : Mu} {a b n : Nat} (h : Dr m m1 a b n) (k : Kp m1 m2) : Dr m m2 a b n := ⟨h.1.kp k, fun c o h1 h2 h3 => k _ _ (h.2 c o h1 h2 h3)⟩
structure GL10 (G : Nat → Option Fn) : Prop extends GL9 G where
  told : G 31 = some (.gen toldS)
  due : G 32 = some (.pure dueS)
  checkSteps : G 33 = some (.pure checkStepsS)
  least : G 34 = some (.pure lLeastS)
def rightS : FSp := fun ds m k _ => ∃ (a b n : Nat) (sh : Sh) (v : DV) (x : S), ds = [.loc a, mdD sh, shD sh, v, .str x] ∧ StB m a b n ∧ n < 1000000 ∧ MdOk sh ∧ vSm v ∧ ∀ m', Dr m m' a b (n + 8) → k (.bl true) m'
theorem nat8 {ys : List DV} (hp : ys.Perm [.int 0, .int 1, .int 2, .int 3, .int 4, .int 5, .int 6, .int 7]) : ∃ l : List Nat, ys = l.map (fun n : Nat => DV.int (n : Int)) ∧ ∀ n ∈ l, n < 8 := by
  have e : [DV.int 0, .int 1, .int 2, .int 3, .int 4, .int 5, .int 6, .int 7] = [0, 1, 2, 3, 4, 5, 6, 7].map (fun n : Nat => DV.int (n : Int)) := rfl
  rw [e] at hp
  obtain ⟨l, rfl, hl⟩ := perm_map_inv hp
  refine ⟨l, rfl, fun n hn => ?_⟩
  have := hl.subset hn
  simp at this
  omega
theorem fm8 : ∀ w : Nat, w < 8 → (w : Int).fmod 4 = ((w % 4 : Nat) : Int) := by decide
theorem out_steps {w : Nat} {sh : Sh} (ok : ShOk sh) {v : DV} {x : S} {l : List (Nat × S)} (h : outcome w sh v x = .steps l) : l.length ≤ 8 := by
  unfold outcome stepsToO at h
  repeat' split at h
  all_goals first | (cases h; done) | (cases h; first | exact stepsOf_len ok _ | exact to_len ok _ _ | simp)
theorem out_least {sh : Sh} (ok : ShOk sh) {v : DV} {x : S} {l : List (Nat × S)} (h : outcome 3 sh v x = .steps l) (hx : x ∉ ofT v) : ∃ rd, v = strT rd ∧ isPartB sh.names v = true ∧ rd.length ≤ 8 ∧ Least sh.rows rd l x := by
  unfold outcome stepsToO at h
  split at h
  · cases h
  · rename_i hp
    have hp : isPartB sh.names v = true := by simpa using hp
    obtain ⟨rd, rfl, hrf⟩ := isPart_inv hp
    rw [ofT_strT] at h hx
    rw [if_neg (by decide), if_neg (by decide)] at h
    split at h
    · cases h
    · simp only [show ¬ (3 = 2) by decide, if_false, hx] at h
      split at h
      · rename_i hs
        cases h
        exact ⟨rd, rfl, hp, Nat.le_trans (part_len hrf) ok.n8, least_ok ok hs⟩
      · cases h
theorem out_val {w : Nat} {sh : Sh} {v : DV} {x : S} {d : DV} (h : outcome w sh v x = .val d) : (plain d = true ∧ depth d ≤ 5) ∧ isiD .list d = some false ∧ (w = 2 → isiD .bool d = some true) := by
  have hT : ∀ l : List S, (plain (strT l) = true ∧ depth (strT l) ≤ 5) := fun l => ⟨by unfold strT; rw [plain_tup, plains_strs], by unfold strT; rw [depth_tup, depths_strs]; decide⟩
  unfold outcome stepsToO at h
  repeat' split at h
  all_goals first | (cases h; done) | skip
  · rename_i hw
    cases h
    exact ⟨hT _, rfl, fun h => by omega⟩
  · cases h
    exact ⟨⟨rfl, by rw [depth_bl]; decide⟩, rfl, fun _ => rfl⟩
theorem out_err2 {w : Nat} {sh : Sh} {v : DV} {x : S} {c : Nat} {d : DV} (hv : vSm v) (h : outcome w sh v x = .err c d) : vSm d ∧ tagOf c ≠ tagT := by
  have hx : vSm (.str x) := .inr ⟨rfl, by rw [depth_str]; decide⟩
  unfold outcome stepsToO at h
  repeat' split at h
  all_goals first | (cases h; done) | (cases h; first | exact ⟨hv, by decide⟩ | exact ⟨hx, by decide⟩)
theorem right_turn (g : GL10 G) {D : Ends} {a w : Nat} {sh : Sh} {v : DV} {x : S} {m : Mu} {w6 w7 : Option DV} (hw : w < 8) (mok : MdOk sh) (hv : vSm v) (hK : ∀ w6 w7 m2, Kp m m2 → D.nx [some (.loc a), some (mdD sh), some (shD sh), some v, some (.str x), some (.int (w : Int)), w6, w7] m2) : rdSs G B_law_right_b1 D [some (.loc a), some (mdD sh), some (shD sh), some v, some (.str x), some (.int (w : Int)), w6, w7] m := by
  have ok := mok.sh
  have hvo := hv.ok
  have hmd : ∀ m : Mu, look m (mdD sh) = mdD sh := fun _ => rfl
  have hmn : isLoc (mdD sh) = false := rfl
  ((try dsimp only); rw [B_law_right_b1, O.ssCons]; simp! only [callG g.told])
  refine ⟨w, sh, v, x, rfl, hw, ok, hvo, ?_⟩
  cases ho : outcome (w % 4) sh v x with
  | val d =>
    intro m1 kp
    obtain ⟨hpd, hil, hib⟩ := out_val ho
    have hdue : dueOf (w % 4) sh v x = .tup [.str tagT, d] := by unfold dueOf; rw [ho]
    have hdo : vOk d := .inr ⟨hpd.1, by omega⟩
    (try simp! only)
    ((try dsimp only); rw [B_law_right_b1_t1, O.ssCons]; simp! only [callP g.due, hmd, hmn, hvo.look, hvo.nl])
    refine ⟨by decide, w % 4, sh, v, x, by rw [fm8 w hw], by omega, mok, hvo, ?_⟩
    rw [hdue]
    (try simp! only [tagT])
    ((try dsimp only); rw [B_law_right_b1_t2, O.ssCons]; simp! only)
    refine iteF (by decide) ?_
    ((try dsimp only); rw [B_law_right_b5, O.ssCons]; simp! only [hdo.look, hib, hil])
    refine ⟨EqT.pair (EqT.sm (.inr hpd)), ?_⟩
    refine ⟨by decide, ?_⟩
    have hgo : rdSs G B_law_right_b1_t3 D [some (.loc a), some (mdD sh), some (shD sh), some v, some (.str x), some (.int (w : Int)), some (.tup [.str [116, 111, 108, 100], d]), some (.tup [.str [116, 111, 108, 100], d])] m1 := by
      ((try dsimp only); rw [B_law_right_b1_t3, O.ssCons]; simp! only [hdo.look, hil, Option.some.injEq, exists_eq_left'])
      exact hK _ _ m1 kp
    rw [fm8 w hw]
    by_cases h2 : w % 4 = 2
    · refine iteT (by simp; omega) (iteT (by decide) ⟨true, hib h2, iteF (by decide) hgo⟩)
    · refine iteF (by simp; omega) hgo
  | steps l =>
    intro a1 m1 ha1 kp hm1
    have hl8 := out_steps ok ho
    have hap : ∀ w7, rdSs G B_law_right_b1_t3 D [some (.loc a), some (mdD sh), some (shD sh), some v, some (.str x), some (.int (w : Int)), some (.tup [.str [116, 111, 108, 100], .loc a1]), w7] m1 := fun w7 => by
      ((try dsimp only); rw [B_law_right_b1_t3, O.ssCons]; simp! only [look_loc hm1])
      refine iteT (by decide) ?_
      ((try dsimp only); rw [B_law_right_b7, O.ssCons]; simp! only [look_loc hm1])
      refine ⟨_, hm1, by rw [List.length_map]; exact Nat.lt_of_le_of_lt hl8 (by decide), ?_⟩
      exact hK _ _ _ (kp.put ha1)
    (try simp! only)
    ((try dsimp only); rw [B_law_right_b1_t1, O.ssCons]; simp! only [callP g.due, hmd, hmn, hvo.look, hvo.nl])
    refine ⟨by decide, w % 4, sh, v, x, by rw [fm8 w hw], by omega, mok, hvo, ?_⟩
    by_cases h3 : w % 4 = 3 ∧ x ∉ ofT v
    · have hdue : dueOf (w % 4) sh v x = .tup [.str tagL, .str x] := by unfold dueOf; rw [ho]; simp only [h3, and_self, if_true, not_false_eq_true]
      rw [hdue]
      rw [h3.1] at ho
      obtain ⟨rd, rfl, hp, hrl, hle⟩ := out_least ok ho h3.2
      have hnl : noMut (.bl true) = true := rfl
      (try simp! only [tagL, tagT])
      ((try dsimp only); rw [B_law_right_b1_t2, O.ssCons]; simp! only)
      refine iteT (by decide) ?_
      ((try dsimp only); rw [B_law_right_b2, O.ssCons]; simp! only [look_loc hm1])
      refine iteF (by decide) ?_
      (try simp! only [Bool.not_true])
      ((try dsimp only); rw [B_law_right_b2_t1, O.ssCons]; simp! only [callP g.least, callP g.checkSteps, hmd, hmn, look_loc hm1, look_shD, hnl, strT])
      refine ⟨sh, rd, l, x, rfl, ok, by omega, by omega, hle, ?_⟩
      refine ⟨hnl, ?_⟩
      (try simp! only [Bool.not_true])
      refine ⟨sh, strT rd, l, rfl, ok, vOk_strT, by omega, fun h => ?_, fun rd' e' _ => ?_⟩
      · rw [hp] at h
        cases h
      · have := strT_inj e'
        subst this
        rw [hle.val]
        refine ⟨fun _ => hnl, ?_⟩
        (try simp! only [isTD])
        refine iteF (by decide) ?_
        exact hap _
    · have hdue : dueOf (w % 4) sh v x = .tup [.str tagT, .lst (l.map stepD)] := by unfold dueOf; rw [ho]; simp only; rw [if_neg h3]
      rw [hdue]
      have h2 : w % 4 ≠ 2 := fun h2 => by
        rw [h2] at ho
        unfold outcome at ho
        repeat' split at ho
        all_goals first | (cases ho; done) | omega
      (try simp! only [tagT])
      ((try dsimp only); rw [B_law_right_b1_t2, O.ssCons]; simp! only)
      refine iteF (by decide) ?_
      ((try dsimp only); rw [B_law_right_b5, O.ssCons]; simp! only)
      refine ⟨EqT.pair (EqT.lst hm1 plains_steps (Nat.le_trans depths_steps (by decide))), ?_⟩
      refine ⟨by decide, ?_⟩
      rw [fm8 w hw]
      refine iteF (by simp; omega) ?_
      exact hap _
  | err c d =>
    intro m1 kp
    obtain ⟨hsd, htg⟩ := out_err2 hv ho
    have hdue : dueOf (w % 4) sh v x = .tup [.str (tagOf c), d] := by unfold dueOf; rw [ho]
    have hdo := hsd.ok
    have htl : tagOf c ≠ tagL := by
      unfold tagOf
      split
      · decide
      · split <;> decide
    unfold tagT at htg
    unfold tagL at htl
    generalize tagOf c = tg at htg hdue htl
    have hgo : rdSs G B_law_right_b1_t3 D [some (.loc a), some (mdD sh), some (shD sh), some v, some (.str x), some (.int (w : Int)), some (.tup [.str tg, d]), some (.tup [.str tg, d])] m1 := by
      ((try dsimp only); rw [B_law_right_b1_t3, O.ssCons]; simp! only [hdo.look, isiV hdo (k := .list) rfl, Option.some.injEq, exists_eq_left'])
      cases kindB .list d with
      | false => exact hK _ _ m1 kp
      | true =>
        refine iteT rfl (iteF (by simp [htg]) ?_)
        exact hK _ _ m1 kp
    (try simp! only)
    ((try dsimp only); rw [B_law_right_b1_t1, O.ssCons]; simp! only [callP g.due, hmd, hmn, hvo.look, hvo.nl])
    refine ⟨by decide, w % 4, sh, v, x, by rw [fm8 w hw], by omega, mok, hvo, ?_⟩
    rw [hdue]
    (try simp! only)
    ((try dsimp only); rw [B_law_right_b1_t2, O.ssCons]; simp! only)
    refine iteF (by simp [htl]) ?_
    ((try dsimp only); rw [B_law_right_b5, O.ssCons]; simp! only)
    refine ⟨EqT.pair (EqT.sm hsd), by decide, ?_⟩
    by_cases h2 : w % 4 = 2
    · rw [fm8 w hw]
      refine iteT (by simp; omega) (iteF (by simp [htg]) hgo)
    · rw [fm8 w hw]
      refine iteF (by simp; omega) hgo
theorem d_right (g : GL10 G) : ∀ ds m k e, rightS ds m k e → rdF G 8 B_law_right ds m k e := by
  rintro ds m k e ⟨a, b, n, sh, v, x, rfl, hs, hn, mok, hv, hk⟩
  have ok := mok.sh
  have hvo := hv.ok
  (simp only [rdF, B_law_right, List.map_cons, List.map_nil, List.length_cons, List.length_nil, Nat.zero_add, Nat.reduceAdd, Nat.reduceSub, List.replicate_succ, List.replicate_zero, List.cons_append, List.nil_append]; rw [O.ssCons])
  (try simp! only [callG g.shuffled])
  refine ⟨a, b, n, _, _, rfl, hs, by omega, .inl rfl, by simp, by simp, by simp, fun ys c m1 hp hc d1 hm1 => ?_⟩
  simp only [List.length_cons, List.length_nil, Nat.zero_add, Nat.reduceAdd] at d1
  obtain ⟨l, rfl, hl⟩ := nat8 hp
  refine ⟨_, by rw [look_loc hm1]; rfl, (fun s h => by rw [look_loc hm1] at h; cases h), ?_⟩
  refine forW_map (f := fun n : Nat => DV.int (n : Int)) (fun done r m' => ∃ w5 w6 w7, r = [some (.loc a), some (mdD sh), some (shD sh), some v, some (.str x), w5, w6, w7] ∧ Dr m m' a b (n + 8) ∧ m' c = some (.lst (l.map fun n : Nat => DV.int (n : Int)))) ⟨none, none, none, rfl, d1, hm1⟩ ?_ ?_
  · rintro done w rest r m' e1 ⟨w5, w6, w7, rfl, hd, hm⟩ K hK
    refine ⟨by rw [look_loc hm]; rfl, ?_⟩
    (try simp! only)
    refine right_turn g (hl w (by rw [e1]; simp)) mok hv fun w6 w7 m2 kp => ?_
    exact hK _ _ ⟨_, _, _, rfl, hd.kp kp, kp _ _ hm⟩
  · rintro r m' ⟨w5, w6, w7, rfl, hd, hm⟩
    refine ⟨by rw [look_loc hm]; rfl, ?_⟩
    ((try dsimp only); rw [B_law_right_t1, O.ssCons]; simp! only)
    exact hk m' hd
end LX

set_option linter.all false
set_option maxRecDepth 10000
namespace LX
open DL TB PX MX
variable {G : Nat → Option Fn}
structure GL11 (G : Nat → Option Fn) : Prop extends GL10 G where
  start : G 35 = some (.gen startS)
  unknowns : G 36 = some (.gen unknownsS)
  model : G 37 = some (.gen modelS)
  shape : G 38 = some (.gen shapeS)
  odd : G 39 = some (.gen oddS)
  right : G 40 = some (.gen rightS)
def lawS : FSp := fun ds _ k _ => ∃ ns : List Int, ds = [.scr ns] ∧ ns.length ≤ 100 ∧ ∀ m', k (.bl true) m'
theorem nat2 {ys : List DV} (hp : ys.Perm [.int 0, .int 1]) : ∃ l : List Nat, ys = l.map (fun n : Nat => DV.int (n : Int)) ∧ ∀ n ∈ l, n < 2 := by
  have e : [DV.int 0, .int 1] = [0, 1].map (fun n : Nat => DV.int (n : Int)) := rfl
  rw [e] at hp
  obtain ⟨l, rfl, hl⟩ := perm_map_inv hp
  refine ⟨l, rfl, fun n hn => ?_⟩
  have := hl.subset hn
  simp at this
  omega
theorem part_sm {l : List S} : vSm (strT l) := .inr ⟨by unfold strT; rw [plain_tup, plains_strs], by unfold strT; rw [depth_tup, depths_strs]; decide⟩
theorem lab {names : List S} {r : Int} (h0 : 0 ≤ r) (h1 : r < 3 * (names.length : Int) + 2) : ∃ x : S, atD ((List.replicate (3 : Int).toNat (names.map DV.str)).flatten ++ [.str [122, 122, 57], .str []]) r = some (.str x) := by
  have e : (List.replicate (3 : Int).toNat (names.map DV.str)).flatten ++ [.str [122, 122, 57], .str []] = (names ++ names ++ names ++ [[122, 122, 57], []]).map DV.str := by
    show (List.replicate 3 (names.map DV.str)).flatten ++ _ = _
    simp [List.replicate_succ]
  rw [e]
  have hl : r.toNat < (names ++ names ++ names ++ [[122, 122, 57], []]).length := by
    simp only [List.length_append, List.length_cons, List.length_nil]
    omega
  refine ⟨(names ++ names ++ names ++ [[122, 122, 57], []])[r.toNat], ?_⟩
  have h := atD_nat (xs := (names ++ names ++ names ++ [[122, 122, 57], []]).map DV.str) (n := r.toNat) (v := .str (names ++ names ++ names ++ [[122, 122, 57], []])[r.toNat]) (by rw [List.getElem?_map, List.getElem?_eq_getElem hl]; rfl)
  rwa [Int.toNat_of_nonneg h0] at h
theorem d_law (g : GL11 G) : ∀ ds m k e, lawS ds m k e → rdF G 10 B_law ds m k e := by
  rintro ds m0 k e ⟨ns, rfl, hn, hk⟩
  (simp only [rdF, B_law, List.map_cons, List.map_nil, List.length_cons, List.length_nil, Nat.zero_add, Nat.reduceAdd, Nat.reduceSub, List.replicate_succ, List.replicate_zero, List.cons_append, List.nil_append]; rw [O.ssCons])
  (try simp! only [callG g.start])
  refine ⟨ns, rfl, hn, fun a b m hs _ => ?_⟩
  ((try dsimp only); rw [B_law_t1, O.ssCons]; simp! only [callG g.unknowns])
  refine ⟨a, b, 0, 8, rfl, hs, by decide, by decide, by decide, fun names m1 nok d1 => ?_⟩
  have h8 := nok.n8
  ((try dsimp only); rw [B_law_t2, O.ssCons]; simp! only [callG g.model])
  refine ⟨a, b, _, names, 8, rfl, d1.1, by decide, nok, by decide, by decide, fun rows1 m2 ok1 d2 => ?_⟩
  (try simp! only [callG g.model])
  refine ⟨a, b, _, names, 8, rfl, d2.1, by decide, nok, by decide, by decide, fun rows2 m3 ok2 d3 => ?_⟩
  have d13 := (d1.trans d2).trans d3
  ((try dsimp only); rw [B_law_t3, O.ssCons]; simp! only)
  obtain ⟨shs, hshs⟩ : ∃ shs : List Sh, shs = [⟨names, rows1⟩, ⟨names, rows2⟩] := ⟨_, rfl⟩
  have hmd : ∀ sh ∈ shs, MdOk sh := fun sh h => by
    rw [hshs] at h
    simp only [List.mem_cons, List.not_mem_nil, or_false] at h
    rcases h with rfl | rfl
    · exact ok1
    · exact ok2
  have hl2 : shs.length = 2 := by rw [hshs]; rfl
  have he : [mdD ⟨names, rows1⟩, mdD ⟨names, rows2⟩] = shs.map mdD := by rw [hshs]; rfl
  rw [he]
  clear he hshs ok1 ok2
  refine compW_st (f := mdD) (fun done acc m' => acc = done.map shD ∧ Dr m m' a b (640 + 10 * done.length)) ⟨rfl, d13.mono (by decide)⟩ ?_ ?_
  · rintro done sh rest acc m' e1 ⟨rfl, hd⟩ kk hk1 hk2
    have hlen := congrArg List.length e1
    simp only [List.length_append, List.length_cons] at hlen
    refine ⟨trivial, ?_⟩
    (try simp! only [callG g.shape])
    refine ⟨a, b, _, sh, rfl, hd.1, by omega, hmd sh (by rw [e1]; simp), fun m4 d4 => ?_⟩
    exact hk1 _ _ ⟨by simp, (hd.trans d4).mono (by simp only [List.length_append, List.length_cons, List.length_nil]; omega)⟩
  rintro acc m4 ⟨rfl, hd4⟩
  refine ⟨trivial, ?_⟩
  rw [hl2] at hd4
  ((try dsimp only); rw [B_law_t4, O.ssCons]; simp! only)
  refine ⟨by decide, by decide, ?_⟩
  unfold rangeL
  refine forW_map (f := fun i : Nat => DV.int (0 + (i : Int) * 1)) (fun done r m' => ∃ w5 w6 w7 w8, r = [some (.scr ns), some (.loc a), some (strT names), some (.lst (shs.map mdD)), some (.lst (shs.map shD)), w5, w6, w7, w8, none] ∧ Dr m m' a b (700 + 60 * done.length)) ⟨_, _, _, _, rfl, hd4.mono (by omega)⟩ ?_ ?_
  · rintro done j rest r m5 e1 ⟨w5, w6, w7, w8, rfl, hd⟩ K hK
    obtain ⟨hj, hj2⟩ := range_split e1
    have hj3 : done.length < 6 := by
      rw [hj] at hj2
      simpa using hj2
    refine ⟨trivial, ?_⟩
    (try simp! only)
    ((try dsimp only); rw [B_law_b1, O.ssCons]; simp! only [callG g.take])
    refine ⟨a, b, _, 3, rfl, hd.1, by omega, by decide, by decide, fun r6 m6 h0 h1 d6 => ?_⟩
    obtain ⟨c, hc, hc2⟩ := pick (xs := [2, 4, 9]) h0 h1
    have hc3 : 0 < c ∧ c < 10 := by
      simp only [List.mem_cons, List.not_mem_nil, or_false] at hc2
      omega
    refine ⟨_, hc, ?_⟩
    (try simp! only [callG g.part])
    refine ⟨a, b, _, _, names, c, rfl, d6.1, by omega, .inl rfl, by omega, by omega, by omega, fun p m7 hp d7 => ?_⟩
    ((try dsimp only); rw [B_law_b1_t1, O.ssCons]; simp! only [callG g.take])
    refine ⟨a, b, _, 6, rfl, d7.1, by omega, by decide, by decide, fun r8 m8 h0' h1' d8 => ?_⟩
    have hd8 := (((hd.trans d6).trans d7).trans d8).mono (n' := 700 + 60 * done.length + 10) (by omega)
    have hmain : ∀ v m9, vSm v → Dr m m9 a b (700 + 60 * done.length + 30) → rdSs G B_law_b1_t2 { nx := K, rt := k, bk := fun r1 m1 => rdSs G B_law_t5 { nx := fun x m1 => k DV.non m1, rt := k, bk := fun x x_1 => False, ct := fun x x_1 => False, ex := fun x x_1 m => e x m } r1 m1, ct := K, ex := fun x x_1 m => e x m } [some (.scr ns), some (.loc a), some (strT names), some (.lst (shs.map mdD)), some (.lst (shs.map shD)), some (.int (0 + (j : Int) * 1)), some v, w7, w8, none] m9 := by
      intro v m9 hv hd9
      ((try dsimp only); rw [B_law_b1_t2, O.ssCons]; simp! only [callG g.take, strT, List.length_map])
      refine ⟨⟨by decide, by decide, by omega⟩, ?_⟩
      refine ⟨?_, .inl (.inl ⟨by omega, by omega⟩), ?_⟩
      · rw [List.length_flatten, List.map_replicate, List.sum_replicate_nat, List.length_map]
        exact Nat.le_trans (m := 26) (by show 3 * names.length + 2 ≤ 26; omega) (by decide)
      refine ⟨a, b, _, _, rfl, hd9.1, by omega, by omega, by omega, fun r10 m10 q0 q1 d10 => ?_⟩
      obtain ⟨x, hx⟩ := lab (names := names) q0 q1
      refine ⟨_, hx, ?_⟩
      ((try dsimp only); rw [B_law_b1_t3, O.ssCons]; simp! only [callG g.shuffled])
      refine ⟨a, b, _, _, _, rfl, d10.1, by omega, .inl rfl, by simp, by simp, by simp, fun ys c' m11 hpm hc' d11 hm11 => ?_⟩
      simp only [List.length_cons, List.length_nil, Nat.zero_add, Nat.reduceAdd] at d11
      obtain ⟨l, rfl, hl⟩ := nat2 hpm
      have hll : l.length = 2 := by
        have := hpm.length_eq
        simpa using this
      have hd11 := ((hd9.trans d10).trans d11).mono (n' := 700 + 60 * done.length + 33) (by omega)
      refine ⟨_, by rw [look_loc hm11]; rfl, (fun s h => by rw [look_loc hm11] at h; cases h), ?_⟩
      refine forW_map (f := fun n : Nat => DV.int (n : Int)) (fun dn r m' => ∃ w8, r = [some (.scr ns), some (.loc a), some (.tup (names.map DV.str)), some (.lst (shs.map mdD)), some (.lst (shs.map shD)), some (.int (0 + (j : Int) * 1)), some v, some (.str x), w8, none] ∧ Dr m m' a b (700 + 60 * done.length + 33 + 8 * dn.length) ∧ m' c' = some (.lst (l.map fun n : Nat => DV.int (n : Int)))) ⟨_, rfl, hd11, hm11⟩ ?_ ?_
      · rintro dn i rest2 r m12 e2 ⟨w8, rfl, hd12, hm12⟩ K2 hK2
        refine ⟨by rw [look_loc hm12]; rfl, ?_⟩
        have hi : i < shs.length := by rw [hl2]; exact hl i (by rw [e2]; simp)
        have hdl : dn.length < 2 := by
          have := congrArg List.length e2
          simp only [List.length_append, List.length_cons] at this
          omega
        have hsi := List.getElem?_eq_getElem hi
        have ha1 : atD (shs.map mdD) (i : Int) = some (mdD shs[i]) := atD_nat (by rw [List.getElem?_map, hsi]; rfl)
        have ha2 : atD (shs.map shD) (i : Int) = some (shD shs[i]) := atD_nat (by rw [List.getElem?_map, hsi]; rfl)
        (try simp! only)
        ((try dsimp only); rw [B_law_b3, O.ssCons]; simp! only [callG g.right, ha1, ha2, Option.some.injEq, exists_eq_left'])
        refine ⟨a, b, _, shs[i], v, x, rfl, hd12.1, by omega, hmd _ (List.getElem_mem hi), hv, fun m13 d13 => ?_⟩
        (try simp! only [Bool.not_true])
        refine hK2 _ _ ⟨_, rfl, (hd12.trans d13).mono (by simp only [List.length_append, List.length_cons, List.length_nil]; omega), ?_⟩
        refine d13.2 c' _ ?_ ?_ hm12
        · exact ((hd9.trans d10).1.nea hc').1
        · exact ((hd9.trans d10).1.nea hc').2
      · rintro r m12 ⟨w8, rfl, hd12, hm12⟩
        refine ⟨by rw [look_loc hm12]; rfl, ?_⟩
        (try simp! only)
        rw [hll] at hd12
        exact hK _ _ ⟨_, _, _, _, rfl, hd12.mono (by simp only [List.length_append, List.length_cons, List.length_nil]; omega)⟩
    (try simp! only)
    by_cases h6 : r8 = 0
    · refine iteT (by simp [h6]) ?_
      ((try dsimp only); rw [B_law_b2, O.ssCons]; simp! only [callG g.odd])
      refine ⟨a, b, _, names, rfl, hd8.1, by omega, nok, fun v m9 hv d9 => ?_⟩
      (try simp! only)
      exact hmain v m9 hv.1 ((hd8.trans d9).mono (by omega))
    · refine iteF (by simp [h6]) ?_
      exact hmain _ _ part_sm (hd8.mono (by omega))
  · rintro r m5 ⟨w5, w6, w7, w8, rfl, hd⟩
    refine ⟨trivial, ?_⟩
    ((try dsimp only); rw [B_law_t5, O.ssCons]; simp! only)
    exact hk m5
end LX

set_option linter.all false
set_option maxRecDepth 10000
namespace PX
open DL TB LX
variable {G : Nat → Option Fn}
/-! ### all sets, hidden sets -/
def setRankS : PSp := fun ds Q _ => ∃ l : List S, ds = [strT l] ∧ Q (pairD l)
theorem d_set_rank : ∀ ds Q E, setRankS ds Q E → rdF G 1 B_set_rank ds Mu.nil (fun d _ => Q d) (fun x _ => E x) := by
  rintro ds Q E ⟨l, rfl, hq⟩
  (simp only [rdF, B_set_rank, strT, List.map_cons, List.map_nil, List.length_cons, List.length_nil, Nat.zero_add, Nat.reduceAdd, Nat.reduceSub, List.replicate_succ, List.replicate_zero, List.cons_append, List.nil_append]; rw [O.ssCons])
  (try simp! only [List.length_map])
  exact hq
def rankK : DV → DV
  | .tup xs => .tup [.int (xs.length : Int), .tup xs]
  | d => d
theorem rank_strT (l : List S) : rankK (strT l) = pairD l := by
  unfold strT rankK pairD strT
  simp
theorem noMut_strs : ∀ l : List S, noMuts (l.map DV.str) = true
  | [] => rfl
  | a :: t => by
    rw [List.map_cons, noMuts, noMut_strs t]
    rfl
theorem noMut_pair (l : List S) : noMut (pairD l) = true := by
  unfold pairD strT
  rw [noMut, noMuts, noMuts, noMuts, noMut, noMut, noMut_strs]
  rfl
structure GH1 (G : Nat → Option Fn) : Prop extends GL5 G where
  setRank : G 41 = some (.pure setRankS)
def allSetsS : PSp := fun ds Q _ => ∃ names, ds = [strT names] ∧ names.length ≤ 8 ∧ Q (.lst ((setsL names).map strT))
theorem sort_rank (l : List (List S)) : (l.map strT).mergeSort (fun a b => lev (rankK a) (rankK b)) = (l.mergeSort fun a b => lev (pairD a) (pairD b)).map strT :=
  (List.map_mergeSort (f := strT) (r := fun a b => lev (pairD a) (pairD b)) (s := fun a b => lev (rankK a) (rankK b)) fun a _ b _ => by rw [rank_strT, rank_strT]).symm
theorem d_all_sets (g : GH1 G) : ∀ ds Q E, allSetsS ds Q E → rdF G 4 B_all_sets ds Mu.nil (fun d _ => Q d) (fun x _ => E x) := by
  rintro ds Q E ⟨names, rfl, h8, hq⟩
  (simp only [rdF, B_all_sets, strT, List.map_cons, List.map_nil, List.length_cons, List.length_nil, Nat.zero_add, Nat.reduceAdd, Nat.reduceSub, List.replicate_succ, List.replicate_zero, List.cons_append, List.nil_append]; rw [O.ssCons])
  (try simp! only)
  ((try dsimp only); rw [B_all_sets_t1, O.ssCons]; simp! only)
  refine forW_map (f := DV.str) (fun done r m => m = Mu.nil ∧ ∃ acc w w2, r = [some (.tup (names.map DV.str)), some (.lst (acc.map strT)), w, w2] ∧ acc.length = 2 ^ done.length ∧ (∀ s ∈ acc, s.length ≤ done.length) ∧ ∀ t, names = done ++ t → pw names [[]] = pw t acc) ⟨rfl, [[]], none, none, rfl, rfl, by simp, fun t h => by rw [h]; rfl⟩ ?_ ?_
  · rintro done x rest r m e1 ⟨rfl, acc, w, w2, rfl, hl, hsl, hall⟩ K hK
    refine ⟨trivial, ?_⟩
    have hdl : done.length ≤ 7 := by
      have := congrArg List.length e1
      simp only [List.length_append, List.length_cons] at this
      omega
    have hp := pow8 (n := done.length) (by omega)
    (try simp! only)
    ((try dsimp only); rw [B_all_sets_b1, O.ssCons]; simp! only)
    refine compW_mp (fun s => strT (s ++ [x])) trivial (fun s hs kk h => ?_) ?_
    · (try simp! only [strT])
      refine ⟨?_, ?_⟩
      · have := hsl s hs
        rw [List.length_map]
        exact Nat.le_trans (m := 9) (by omega) (by decide)
      · simpa [strT] using h
    · (try simp! only)
      refine ⟨by simp only [List.length_map]; exact Nat.le_trans (m := 512) (by omega) (by decide), ?_⟩
      refine hK _ _ ⟨rfl, acc ++ acc.map (· ++ [x]), _, _, by rw [List.map_append, List.map_map]; rfl, ?_, fun s hs => ?_, fun t h => ?_⟩
      · rw [List.length_append, List.length_map, List.length_append, List.length_cons, List.length_nil, Nat.pow_succ, hl]
        omega
      · rw [List.length_append, List.length_cons, List.length_nil]
        rcases List.mem_append.mp hs with h | h
        · have := hsl s h
          omega
        · obtain ⟨q, hq', rfl⟩ := List.mem_map.mp h
          have := hsl q hq'
          rw [List.length_append, List.length_cons, List.length_nil]
          omega
      · rw [hall (x :: t) (by rw [h]; simp), pw]
  · rintro r m ⟨rfl, acc, w, w2, rfl, hl, hsl, hall⟩
    refine ⟨trivial, ?_⟩
    have hacc : pw names [[]] = acc := hall [] (by simp)
    ((try dsimp only); rw [B_all_sets_t2, O.ssCons]; simp! only)
    refine ⟨_, rfl, ?_⟩
    show srtKD G 41 (.lst (acc.map strT)) _
    refine ⟨rankK, ⟨setRankS, g.setRank, fun w hw => ?_⟩, ?_, ?_⟩
    · obtain ⟨s, _, rfl⟩ := List.mem_map.mp hw
      exact ⟨s, rfl, (rank_strT s).symm, noMut_pair s⟩
    · rw [List.map_map, show (rankK ∘ strT) = pairD from funext rank_strT]
      exact srtOk_pairs _
    · rw [sort_rank, ← hacc]
      exact hq
def partedS : PSp := fun ds Q _ => ∃ l c : List S, ds = [strT l, strT c] ∧ Q (.tup [.lst ((l.filter fun x => decide (x ∈ c)).map DV.str), .lst ((l.filter fun x => decide (x ∉ c)).map DV.str)])
theorem d_parted : ∀ ds Q E, partedS ds Q E → rdF G 3 B_parted ds Mu.nil (fun d _ => Q d) (fun x _ => E x) := by
  rintro ds Q E ⟨l, c, rfl, hq⟩
  (simp only [rdF, B_parted, strT, List.map_cons, List.map_nil, List.length_cons, List.length_nil, Nat.zero_add, Nat.reduceAdd, Nat.reduceSub, List.replicate_succ, List.replicate_zero, List.cons_append, List.nil_append]; rw [O.ssCons])
  (try simp! only)
  refine compW_flt (fun x => decide (x ∈ c)) trivial (fun x _ kk h => ?_) ?_
  · (try simp! only)
    by_cases hx : x ∈ c <;> simpa [hx] using h
  · (try simp! only)
    refine compW_flt (fun x => decide (x ∉ c)) trivial (fun x _ kk h => ?_) ?_
    · (try simp! only)
      by_cases hx : x ∈ c <;> simpa [hx] using h
    · (try simp! only)
      exact hq
/-- no row has just one of them, and this one surely -/
def hideR (c : List S) (r : Row) : Bool := !(decide ((r.1.filter fun x => decide (x ∈ c)).length = 1) && decide ((r.2.filter fun x => decide (x ∈ c)) = []))
structure GH2 (G : Nat → Option Fn) : Prop extends GH1 G where
  parted : G 43 = some (.pure partedS)
  allSets : G 44 = some (.pure allSetsS)
def canHideS : PSp := fun ds Q _ => ∃ (sh : Sh) (c : List S), ds = [shD sh, strT c] ∧ Q (.bl (sh.rows.all (hideR c)))
theorem nil_s {l : List S} : eqv (.lst (l.map DV.str)) (.lst []) = decide (l = []) := by
  rw [eqv_lst]
  cases l with
  | nil => rfl
  | cons a t => rw [List.map_cons, eqvs_cn]; simp
theorem d_can_hide (g : GH2 G) : ∀ ds Q E, canHideS ds Q E → rdF G 4 B_can_hide ds Mu.nil (fun d _ => Q d) (fun x _ => E x) := by
  rintro ds Q E ⟨sh, c, rfl, hq⟩
  (simp only [rdF, B_can_hide, List.map_cons, List.map_nil, List.length_cons, List.length_nil, Nat.zero_add, Nat.reduceAdd, Nat.reduceSub, List.replicate_succ, List.replicate_zero, List.cons_append, List.nil_append]; rw [O.ssCons])
  (try simp! only [prpR g.rws])
  refine forW_map (f := rowD) (fun done r m => m = Mu.nil ∧ (∃ w w2, r = [some (shD sh), some (strT c), w, w2]) ∧ done.all (hideR c) = true) ⟨rfl, ⟨none, none, rfl⟩, rfl⟩ ?_ ?_
  · rintro done ⟨s, p⟩ rest r m e1 ⟨rfl, ⟨w, w2, rfl⟩, hd⟩ K hK
    refine ⟨trivial, ?_⟩
    have hno : hideR c (s, p) = false → sh.rows.all (hideR c) = false := fun h => by rw [e1]; simp [h]
    (try simp! only [rowD])
    ((try dsimp only); rw [B_can_hide_b1, O.ssCons]; simp! only [callP g.parted, strT])
    refine ⟨s, c, rfl, ?_⟩
    (try simp! only [List.length_map])
    by_cases h1 : (s.filter fun x => decide (x ∈ c)).length = 1
    · refine iteT (by simp [h1]) ?_
      refine ⟨p, c, rfl, ?_⟩
      (try simp! only [nil_s])
      by_cases h2 : (p.filter fun x => decide (x ∈ c)) = []
      · refine iteT (by simp only [h2]; decide) ?_
        (try simp! only [B_can_hide_b2, rdSs])
        rw [hno (by simp only [hideR, h1, h2]; decide)] at hq
        exact hq
      · refine iteF (by simp only [h2]; decide) ?_
        exact hK _ _ ⟨rfl, ⟨_, _, rfl⟩, by rw [List.all_append, hd]; simp only [List.all_cons, List.all_nil, hideR, h1, h2]; decide⟩
    · refine iteF (by simp; omega) ?_
      exact hK _ _ ⟨rfl, ⟨_, _, rfl⟩, by rw [List.all_append, hd]; simp [hideR, h1]⟩
  · rintro r m ⟨rfl, ⟨w, w2, rfl⟩, hd⟩
    refine ⟨trivial, ?_⟩
    ((try dsimp only); rw [B_can_hide_t1, O.ssCons]; simp! only)
    rw [hd] at hq
    exact hq
def unreadL (sh : Sh) (rd : List S) : List S := sh.names.filter fun x => decide (x ∉ rd)
def hiddenL (sh : Sh) (rd : List S) : List (List S) := ((setsL (unreadL sh rd)).drop 1).filter fun c => sh.rows.all (hideR c)
structure GH3 (G : Nat → Option Fn) : Prop extends GH2 G where
  canHide : G 45 = some (.pure canHideS)
def hiddenS : FSp := fun ds m k e => ∃ sh v, ds = [shD sh, v] ∧ ShOk sh ∧ vOk v ∧ (isPartB sh.names v = false → e ⟨4, v⟩ m) ∧ (∀ rd, v = strT rd → isPartB sh.names v = true → ∀ a, m a = none → k (.loc a) (m.put a (.lst ((hiddenL sh rd).map strT))))
theorem d_hidden_sets (g : GH3 G) : ∀ ds m k e, hiddenS ds m k e → rdF G 5 B_hidden_sets ds m k e := by
  rintro ds m k e ⟨sh, v, rfl, ok, hv, he, hk⟩
  (simp only [rdF, B_hidden_sets, List.map_cons, List.map_nil, List.length_cons, List.length_nil, Nat.zero_add, Nat.reduceAdd, Nat.reduceSub, List.replicate_succ, List.replicate_zero, List.cons_append, List.nil_append]; rw [O.ssCons])
  (try simp! only [callP g.checkReadings, hv.look, hv.nl, look_shD, il_shD])
  refine ⟨sh, v, rfl, hv, fun hp => ?_, fun hp => he hp⟩
  obtain ⟨rd, rfl, hrf⟩ := isPart_inv hp
  have hk := hk rd rfl hp
  have hul : (unreadL sh rd).length ≤ 8 := Nat.le_trans (List.length_filter_le _ _) ok.n8
  ((try dsimp only); rw [B_hidden_sets_t1, O.ssCons]; simp! only [prpU g.unk, strT])
  refine compW_flt (fun x => decide (x ∉ rd)) trivial (fun x _ kk h => ?_) ?_
  · (try simp! only)
    by_cases hx : x ∈ rd <;> simpa [hx] using h
  (try simp! only)
  ((try dsimp only); rw [B_hidden_sets_t2, O.ssCons]; simp! only [callP g.allSets])
  refine ⟨unreadL sh rd, rfl, hul, ?_⟩
  have ed : cut ((setsL (unreadL sh rd)).map strT) (some 1) none = ((setsL (unreadL sh rd)).drop 1).map strT := by
    have := cut_drop ((setsL (unreadL sh rd)).map strT) 1
    rw [← List.map_drop] at this
    exact this
  (try simp! only [ed])
  refine compW_flt (f := strT) (fun c => sh.rows.all (hideR c)) trivial (fun c _ kk h => ?_) ?_
  · (try simp! only [callP g.canHide, look_shD, il_shD, strT])
    refine ⟨sh, c, rfl, ?_⟩
    cases hc : sh.rows.all (hideR c) with
    | true =>
      rw [hc] at h
      (try simp! only)
      simpa [strT] using h
    | false =>
      rw [hc] at h
      (try simp! only)
      simpa using h
  · intro a ha
    exact hk a ha
end PX

set_option linter.all false
set_option maxRecDepth 10000
namespace LH
open DL TB PX LX MX
variable {G : Nat → Option Fn}
/-! ### the law's own hidden sets -/
def lGood (c : List S) (r : Row) : Bool := match (r.1 ++ r.2).filter fun x => decide (x ∈ c) with
  | [x] => decide (x ∉ r.1)
  | _ => true
theorem good_eq {c : List S} {r : Row} (hn : (r.1 ++ r.2).Nodup) : lGood c r = hideR c r := by
  unfold lGood hideR
  rw [List.filter_append]
  rw [List.nodup_append] at hn
  generalize hf1 : (r.1.filter fun x => decide (x ∈ c)) = f1
  generalize hf2 : (r.2.filter fun x => decide (x ∈ c)) = f2
  have m1 : ∀ x ∈ f1, x ∈ r.1 := fun x hx => by rw [← hf1] at hx; exact (List.mem_filter.mp hx).1
  have m2 : ∀ x ∈ f2, x ∈ r.2 := fun x hx => by rw [← hf2] at hx; exact (List.mem_filter.mp hx).1
  match f1, f2, m1, m2 with
  | [], [], _, _ => rfl
  | [], [x], _, m2 =>
    have hx : x ∉ r.1 := fun h => hn.2.2 x h x (m2 x (by simp)) rfl
    simp [hx]
  | [], _ :: _ :: _, _, _ => rfl
  | [x], [], m1, _ =>
    have hx : x ∈ r.1 := m1 x (by simp)
    simp [hx]
  | [x], _ :: _, _, _ => simp
  | _ :: _ :: _, f2, _, _ => simp
structure GH4 (G : Nat → Option Fn) : Prop extends GH3 G where
  hidden : G 46 = some (.gen hiddenS)
  kHidden : G 47 = some (.gen (kwG [1, 0] 2 hiddenS))
def dueHS : PSp := fun ds Q _ => ∃ sh rd, ds = [mdD sh, strT rd] ∧ ShOk sh ∧ Q (.lst ((hiddenL sh rd).map strT))
theorem d_dueH (g : GL5 G) : ∀ ds Q E, dueHS ds Q E → rdF G 10 B_law_due_v1 ds Mu.nil (fun d _ => Q d) (fun x _ => E x) := by
  rintro ds Q E ⟨sh, rd, rfl, ok, hq⟩
  have hul : (unreadL sh rd).length ≤ 8 := Nat.le_trans (List.length_filter_le _ _) ok.n8
  (simp only [rdF, B_law_due_v1, mdD, strT, List.map_cons, List.map_nil, List.length_cons, List.length_nil, Nat.zero_add, Nat.reduceAdd, Nat.reduceSub, List.replicate_succ, List.replicate_zero, List.cons_append, List.nil_append]; rw [O.ssCons])
  (try simp! only)
  refine compW_flt (fun x => decide (x ∉ rd)) trivial (fun x _ kk h => ?_) ?_
  · (try simp! only)
    by_cases hx : x ∈ rd <;> simpa [hx] using h
  (try simp! only)
  ((try dsimp only); rw [B_law_due_v1_t1, O.ssCons]; simp! only)
  intro a ha
  ((try dsimp only); rw [B_law_due_v1_t2, O.ssCons]; simp! only [callP g.sets])
  refine ⟨unreadL sh rd, rfl, hul, ?_⟩
  have ed : cut ((setsL (unreadL sh rd)).map strT) (some 1) none = ((setsL (unreadL sh rd)).drop 1).map strT := by
    have := cut_drop ((setsL (unreadL sh rd)).map strT) 1
    rw [← List.map_drop] at this
    exact this
  have hsl : ((setsL (unreadL sh rd)).drop 1).length ≤ 256 := by
    have h1 := pow8 hul
    rw [List.length_drop, sets_len]
    omega
  have hh : hiddenL sh rd = ((setsL (unreadL sh rd)).drop 1).filter fun c => sh.rows.all (hideR c) := rfl
  (try simp! only [ed])
  generalize (setsL (unreadL sh rd)).drop 1 = ss at hsl hh
  refine forW_map (f := strT) (fun done r m => ∃ w4 w5 w6 w7 w8, r = [some (.tup [.tup (sh.names.map DV.str), .lst (sh.rows.map rowD)]), some (.tup (rd.map DV.str)), some (.tup ((unreadL sh rd).map DV.str)), some (.loc a), w4, w5, w6, w7, w8, none] ∧ m = Mu.nil.put a (.lst ((done.filter fun c => sh.rows.all (hideR c)).map strT))) ⟨none, none, none, none, none, rfl, rfl⟩ ?_ ?_
  · rintro done c rest r m e1 ⟨w4, w5, w6, w7, w8, rfl, rfl⟩ K hK
    refine ⟨trivial, ?_⟩
    have hdl : done.length ≤ 256 := by
      have := congrArg List.length e1
      simp only [List.length_append, List.length_cons] at this
      omega
    (try simp! only)
    ((try dsimp only); rw [B_law_due_v1_b1, O.ssCons]; simp! only)
    ((try dsimp only); rw [B_law_due_v1_b1_t1, O.ssCons]; simp! only)
    refine forW_map (f := rowD) (fun dn r m => ∃ w6 w7 w8, r = [some (.tup [.tup (sh.names.map DV.str), .lst (sh.rows.map rowD)]), some (.tup (rd.map DV.str)), some (.tup ((unreadL sh rd).map DV.str)), some (.loc a), some (strT c), some (.bl (dn.all (hideR c))), w6, w7, w8, none] ∧ m = Mu.nil.put a (.lst ((done.filter fun c => sh.rows.all (hideR c)).map strT))) ⟨_, _, _, rfl, rfl⟩ ?_ ?_
    · rintro dn ⟨s, p⟩ rest2 r m e2 ⟨w6, w7, w8, rfl, rfl⟩ K2 hK2
      have hrow : (s, p) ∈ sh.rows := by rw [e2]; simp
      have hlen := ok.len hrow
      have hge := good_eq (c := c) (ok.rnd _ hrow)
      simp only at hlen
      refine ⟨trivial, ?_⟩
      have hall : (dn ++ [(s, p)]).all (hideR c) = (dn.all (hideR c) && lGood c (s, p)) := by rw [List.all_append, hge]; simp
      (try simp! only [rowD])
      ((try dsimp only); rw [B_law_due_v1_b2, O.ssCons]; simp! only [strT])
      refine ⟨by simp only [List.length_map]; exact Nat.le_trans hlen (by decide), ?_⟩
      rw [← List.map_append]
      refine compW_flt (fun x => decide (x ∈ c)) trivial (fun x _ kk h => ?_) ?_
      · (try simp! only)
        by_cases hx : x ∈ c <;> simpa [hx] using h
      have hlg : lGood c (s, p) = match (s ++ p).filter fun x => decide (x ∈ c) with
        | [x] => decide (x ∉ s)
        | _ => true := rfl
      ((try dsimp only); rw [B_law_due_v1_b2_t1, O.ssCons]; simp! only [List.length_map])
      generalize (s ++ p).filter (fun x => decide (x ∈ c)) = op at hlg
      match op, hlg with
      | [], hlg =>
        refine iteF (by simp) ?_
        exact hK2 _ _ ⟨_, _, _, by rw [hall, hlg, Bool.and_true]; rfl, rfl⟩
      | x :: y :: t, hlg =>
        refine iteF (by simp; omega) ?_
        exact hK2 _ _ ⟨_, _, _, by rw [hall, hlg, Bool.and_true]; rfl, rfl⟩
      | [x], hlg =>
        refine iteT (by simp) ?_
        (try simp! only)
        by_cases hx : x ∈ s
        · simp only [hx, not_true, decide_false] at hlg
          (try simp! only [hx, decide_true, B_law_due_v1_b3, rdSs])
          exact hK2 _ _ ⟨_, _, _, by rw [hall, hlg, Bool.and_false]; rfl, rfl⟩
        · simp only [hx, not_false_eq_true, decide_true] at hlg
          (try simp! only [hx, decide_false])
          exact hK2 _ _ ⟨_, _, _, by rw [hall, hlg, Bool.and_true]; rfl, rfl⟩
    · rintro r m ⟨w6, w7, w8, rfl, rfl⟩
      refine ⟨trivial, ?_⟩
      ((try dsimp only); rw [B_law_due_v1_b1_t2, O.ssCons]; simp! only)
      cases hg : sh.rows.all (hideR c) with
      | true =>
        have la := look_loc (put_same (m := Mu.nil) (a := a) (o := .lst ((done.filter fun c => sh.rows.all (hideR c)).map strT)))
        (try simp! only)
        ((try dsimp only); rw [B_law_due_v1_b4, O.ssCons]; simp! only [la])
        refine ⟨_, put_same, by rw [List.length_map]; exact Nat.lt_of_le_of_lt (Nat.le_trans (List.length_filter_le _ _) hdl) (by decide), ?_⟩
        refine hK _ _ ⟨_, _, _, _, _, rfl, ?_⟩
        rw [put_put, List.filter_append]
        simp [hg]
      | false =>
        (try simp! only)
        refine hK _ _ ⟨_, _, _, _, _, rfl, ?_⟩
        rw [List.filter_append]
        simp [hg]
  · rintro r m ⟨w4, w5, w6, w7, w8, rfl, rfl⟩
    refine ⟨trivial, ?_⟩
    ((try dsimp only); rw [B_law_due_v1_t3, O.ssCons]; simp! only)
    rw [O.frzL, put_same]
    rw [hh] at hq
    exact hq
def toldHS : FSp := fun ds m k _ => ∃ (w : Nat) (sh : Sh) (v : DV), ds = [.int (w : Int), shD sh, v] ∧ w < 2 ∧ ShOk sh ∧ vOk v ∧ (isPartB sh.names v = false → k (.tup [.str [115, 101, 116], v]) m) ∧ (∀ rd, v = strT rd → isPartB sh.names v = true → ∀ a, m a = none → k (.tup [.str [116, 111, 108, 100], .loc a]) (m.put a (.lst ((hiddenL sh rd).map strT))))
theorem d_toldH (g : GH4 G) : ∀ ds m k e, toldHS ds m k e → rdF G 4 B_law_told_v1 ds m k e := by
  rintro ds m k e ⟨w, sh, v, rfl, hw, ok, hv, he, hk⟩
  have hl : (2 : Nat) ≤ LINE := by decide
  (simp only [rdF, B_law_told_v1, List.map_cons, List.map_nil, List.length_cons, List.length_nil, Nat.zero_add, Nat.reduceAdd, Nat.reduceSub, List.replicate_succ, List.replicate_zero, List.cons_append, List.nil_append]; rw [O.ssCons])
  (try simp! only)
  have h2 : w = 0 ∨ w = 1 := by omega
  rcases h2 with rfl | rfl
  · ((try dsimp only); rw [B_law_told_v1_b1, O.ssCons]; simp! only)
    refine iteT (by decide) ?_
    (try simp! only [B_law_told_v1_b2, rdSs, callG g.hidden])
    exact ⟨sh, v, rfl, ok, hv, fun hp => ⟨⟨by simp, by simp⟩, he hp⟩, fun rd e hp a ha => hk rd e hp a ha⟩
  · ((try dsimp only); rw [B_law_told_v1_b1, O.ssCons]; simp! only)
    refine iteF (by decide) ?_
    ((try dsimp only); rw [B_law_told_v1_b1_t1, O.ssCons]; simp! only [callG g.kHidden])
    exact ⟨rfl, sh, v, rfl, ok, hv, fun hp => ⟨⟨by simp, by simp⟩, he hp⟩, fun rd e hp a ha => hk rd e hp a ha⟩
end LH

set_option linter.all false
namespace MX
open DL PX LX LH
/-! ### the sets' order -/
theorem ltvs_strs : ∀ xs ys : List S, ltvs (xs.map DV.str) (ys.map DV.str) = decide (xs < ys)
  | [], [] => by simp [ltvs]
  | [], y :: t => by simp [ltvs]
  | x :: t, [] => by simp [ltvs]
  | x :: xs, y :: ys => by
    rw [List.map_cons, List.map_cons, ltvs, eqv_strD, ltvs_strs xs ys]
    by_cases h : x = y
    · subst h
      simp [List.cons_lt_cons_iff, List.lt_irrefl]
    · simp [h, List.cons_lt_cons_iff, ltv]
theorem lev_pair (a b : List S) : lev (pairD a) (pairD b) = !(decide (b.length < a.length) || (decide (b.length = a.length) && decide (b < a))) := by
  unfold lev pairD strT
  congr 1
  rw [ltv, ltvs, ltvs, eqv_int, ltv, ltv, eqv_tup, eqvs_strs, ltvs_strs]
  by_cases h : b.length = a.length
  · simp only [h, beq_self_eq_true, if_true]
    by_cases h2 : b = a
    · subst h2
      simp [ltvs, List.lt_irrefl]
    · simp [h2]
  · have : ¬ ((b.length : Int) == (a.length : Int)) = true := by
      simp only [beq_iff_eq]
      omega
    rw [if_neg this]
    by_cases h3 : b.length < a.length
    · have : (b.length : Int) < a.length := by omega
      simp [h3, this]
    · have : ¬ (b.length : Int) < a.length := by omega
      simp [h, h3, this]
theorem lev_trans (a b c : List S) (h1 : lev (pairD a) (pairD b) = true) (h2 : lev (pairD b) (pairD c) = true) : lev (pairD a) (pairD c) = true := by
  rw [lev_pair] at *
  simp only [Bool.not_eq_true', Bool.or_eq_false_iff, decide_eq_false_iff_not, Bool.and_eq_false_imp, decide_eq_true_eq] at *
  refine ⟨by omega, fun h => ?_⟩
  have e1 : b.length = a.length := by omega
  have e2 : c.length = b.length := by omega
  exact List.not_lt.mpr (List.le_trans (List.not_lt.mp (h1.2 e1)) (List.not_lt.mp (h2.2 e2)))
theorem lev_total (a b : List S) : (lev (pairD a) (pairD b) || lev (pairD b) (pairD a)) = true := by
  rw [lev_pair, lev_pair]
  by_cases h1 : b.length < a.length
  · have : ¬ a.length < b.length := by omega
    have h2 : ¬ a.length = b.length := by omega
    simp [h1, this, h2]
  · by_cases h2 : a.length < b.length
    · have h3 : ¬ b.length = a.length := by omega
      simp [h1, h2, h3]
    · have h3 : b.length = a.length := by omega
      simp only [h3, Nat.lt_irrefl, decide_false, Bool.false_or, decide_true, Bool.true_and]
      by_cases h4 : b < a
      · have : ¬ a < b := fun h => List.lt_irrefl a (List.lt_trans h h4)
        simp [h4, this]
      · simp [h4]
theorem pw_nil : ∀ (l : List S) (acc : List (List S)), (pw l acc).filter (fun c => decide (c = [])) = acc.filter fun c => decide (c = [])
  | [], acc => rfl
  | x :: t, acc => by
    rw [pw, pw_nil t, List.filter_append]
    have : (acc.map (· ++ [x])).filter (fun c => decide (c = [])) = [] := by
      rw [List.filter_eq_nil_iff]
      intro c hc
      obtain ⟨q, _, rfl⟩ := List.mem_map.mp hc
      simp
    rw [this, List.append_nil]
theorem sets_cons (l : List S) : ∃ t, setsL l = [] :: t ∧ ∀ c ∈ t, c ≠ [] := by
  have hp : (setsL l).Pairwise (fun a b => lev (pairD a) (pairD b) = true) := List.pairwise_mergeSort lev_trans lev_total _
  have hm : [] ∈ setsL l := mem_sets.mpr (List.nil_sublist l)
  have hc : ((setsL l).filter fun c => decide (c = [])).length = 1 := by
    have := ((List.mergeSort_perm (pw l [[]]) fun a b => lev (pairD a) (pairD b)).filter fun c => decide (c = [])).length_eq
    rw [pw_nil] at this
    exact this
  generalize setsL l = ss at hp hm hc
  cases ss with
  | nil => cases hm
  | cons f t =>
    have hf : f = [] := by
      rcases List.mem_cons.mp hm with h | h
      · exact h.symm
      · have := List.rel_of_pairwise_cons hp h
        rw [lev_pair] at this
        cases f with
        | nil => rfl
        | cons a b => simp at this
    subst hf
    refine ⟨t, rfl, fun c hc' e => ?_⟩
    subst e
    have : ([] : List S) ∈ t.filter fun c => decide (c = []) := List.mem_filter.mpr ⟨hc', by simp⟩
    have := List.length_pos_of_mem this
    rw [List.filter_cons_of_pos (by simp), List.length_cons] at hc
    omega
theorem sets_drop {l c : List S} : c ∈ (setsL l).drop 1 ↔ c.Sublist l ∧ c ≠ [] := by
  obtain ⟨t, e, hn⟩ := sets_cons l
  rw [← mem_sets, e]
  simp only [List.drop_succ_cons, List.drop_zero, List.mem_cons]
  exact ⟨fun h => ⟨.inr h, hn c h⟩, fun ⟨h, hne⟩ => h.elim (fun z => absurd z hne) id⟩
theorem only_one {l : List S} {x : S} (hn : l.Nodup) (hx : x ∈ l) (h : ∀ y ∈ l, y = x) : l = [x] := by
  match l, hn, hx, h with
  | [a], _, _, h => rw [h a (by simp)]
  | a :: b :: t, hn, _, h =>
    rw [List.nodup_cons] at hn
    exact absurd (by rw [h a (by simp), ← h b (by simp)]; simp) hn.1
/-- a step does not reach into a set that hides -/
theorem hide_step {r : Row} {st c : List S} {x : S} (hn : (r.1 ++ r.2).Nodup) (hh : hideR c r = true) (hs : stepB r st x = true) (hd : ∀ y ∈ c, y ∉ st) : x ∉ c := fun hx => by
  obtain ⟨h1, h2, h3⟩ := stepB_iff.mp hs
  rw [List.nodup_append] at hn
  have e1 : (r.1.filter fun y => decide (y ∈ c)) = [x] := by
    refine only_one (hn.1.sublist List.filter_sublist) (List.mem_filter.mpr ⟨h2, by simp [hx]⟩) fun y hy => ?_
    obtain ⟨hy1, hy2⟩ := List.mem_filter.mp hy
    rcases h3 y (List.mem_append_left _ hy1) with h | h
    · exact h
    · exact absurd h (hd y (by simpa using hy2))
  have e2 : (r.2.filter fun y => decide (y ∈ c)) = [] := by
    rw [List.filter_eq_nil_iff]
    intro y hy hc
    have hc : y ∈ c := by simpa using hc
    rcases h3 y (List.mem_append_right _ hy) with h | h
    · subst h
      exact hn.2.2 y h2 y hy rfl
    · exact hd y hc h
  unfold hideR at hh
  rw [e1, e2] at hh
  simp at hh
theorem hide_steps {sh : Sh} (ok : ShOk sh) {c : List S} (hh : sh.rows.all (hideR c) = true) : ∀ {l : List (Nat × S)} {st : List S}, validL sh.rows st l = true → (∀ y ∈ c, y ∉ st) → ∀ y ∈ l.map (·.2), y ∉ c
  | [], _, _, _, _, h => by cases h
  | (n, x) :: t, st, hv, hd, y, hy => by
    simp only [validL, Bool.and_eq_true] at hv
    have hx : x ∉ c := by
      have h1 := hv.1
      unfold stepAt at h1
      split at h1
      · rename_i r e
        have hr := List.mem_of_getElem? e
        exact hide_step (ok.rnd r hr) (List.all_eq_true.mp hh r hr) h1 hd
      · cases h1
    rw [List.map_cons] at hy
    rcases List.mem_cons.mp hy with e | hy
    · rw [e]; exact hx
    · refine hide_steps ok hh hv.2 (fun z hz hm => ?_) y hy
      rcases List.mem_append.mp hm with h | h
      · exact hd z hz h
      · exact hx (List.mem_singleton.mp h ▸ hz)
/-- what is not reached hides -/
theorem open_hides {sh : Sh} {C : List S} (ok : ShOk sh) (hC : Closed sh.rows C) : sh.rows.all (hideR (sh.names.filter fun x => decide (x ∉ C))) = true := by
  rw [List.all_eq_true]
  intro r hr
  have hin : ∀ y, y ∈ r.1 ++ r.2 → (y ∈ (sh.names.filter fun x => decide (x ∉ C)) ↔ y ∉ C) := fun y hy => by
    have hn : y ∈ sh.names := (List.mem_append.mp hy).elim ((ok.sub r hr).1 y) ((ok.sub r hr).2 y)
    simp [hn]
  generalize (sh.names.filter fun x => decide (x ∉ C)) = U at hin
  cases hh : hideR U r with
  | true => rfl
  | false =>
    exfalso
    unfold hideR at hh
    simp only [Bool.not_eq_false', Bool.and_eq_true, decide_eq_true_eq] at hh
    obtain ⟨h1, h2⟩ := hh
    obtain ⟨x, hx⟩ := List.length_eq_one_iff.mp h1
    have hxm : x ∈ r.1.filter fun y => decide (y ∈ U) := by rw [hx]; simp
    obtain ⟨hx1, hx2⟩ := List.mem_filter.mp hxm
    have hxU : x ∈ U := by simpa using hx2
    have : stepB r C x = true := by
      refine stepB_iff.mpr ⟨(hin x (List.mem_append_left _ hx1)).mp hxU, hx1, fun o ho => ?_⟩
      by_cases hoC : o ∈ C
      · exact .inr hoC
      · have hoU := (hin o ho).mpr hoC
        rcases List.mem_append.mp ho with h | h
        · have : o ∈ r.1.filter fun y => decide (y ∈ U) := List.mem_filter.mpr ⟨h, by simp [hoU]⟩
          rw [hx] at this
          exact .inl (List.mem_singleton.mp this)
        · have : o ∈ r.2.filter fun y => decide (y ∈ U) := List.mem_filter.mpr ⟨h, by simp [hoU]⟩
          rw [h2] at this
          cases this
    rw [hC r hr x] at this
    cases this
theorem hidden_iff {sh : Sh} (ok : ShOk sh) {rd : List S} (h : rd = sh.names.filter fun n => decide (n ∈ rd)) {x : S} (hx : x ∈ sh.names) : (∀ c ∈ hiddenL sh rd, x ∉ c) ↔ x ∈ reachedL sh rd := by
  have hc := steps_closed ok sh.names.length rd (free_le _ _)
  have hv := steps_valid ok sh.names.length rd
  have hm : x ∈ reachedL sh rd ↔ x ∈ rd ++ (stepsF sh.rows sh.names.length rd).map (·.2) := by
    unfold reachedL sortS stepsOf
    rw [List.mem_mergeSort]
  rw [hm]
  constructor
  · intro hall
    cases hd : decide (x ∈ rd ++ (stepsF sh.rows sh.names.length rd).map (·.2)) with
    | true => simpa using hd
    | false =>
      have hno : x ∉ rd ++ (stepsF sh.rows sh.names.length rd).map (·.2) := by simpa using hd
      exfalso
      refine hall (sh.names.filter fun y => decide (y ∉ rd ++ (stepsF sh.rows sh.names.length rd).map (·.2))) ?_ (List.mem_filter.mpr ⟨hx, by simpa using hno⟩)
      unfold hiddenL
      refine List.mem_filter.mpr ⟨sets_drop.mpr ⟨?_, fun e => ?_⟩, open_hides ok hc⟩
      · have : (sh.names.filter fun y => decide (y ∉ rd ++ (stepsF sh.rows sh.names.length rd).map (·.2))) = (unreadL sh rd).filter fun y => decide (y ∉ rd ++ (stepsF sh.rows sh.names.length rd).map (·.2)) := by
          unfold unreadL
          rw [List.filter_filter]
          refine List.filter_congr fun y _ => ?_
          by_cases h1 : y ∈ rd <;> by_cases h2 : y ∈ (stepsF sh.rows sh.names.length rd).map (·.2) <;> simp [h1, h2]
        rw [this]
        exact List.filter_sublist
      · have : x ∈ (sh.names.filter fun y => decide (y ∉ rd ++ (stepsF sh.rows sh.names.length rd).map (·.2))) := List.mem_filter.mpr ⟨hx, by simpa using hno⟩
        rw [e] at this
        cases this
  · intro hr c hcm
    unfold hiddenL at hcm
    obtain ⟨h1, h2⟩ := List.mem_filter.mp hcm
    have hsub := (sets_drop.mp h1).1
    have hdis : ∀ y ∈ c, y ∉ rd := fun y hy hyr => by
      have := hsub.subset hy
      unfold unreadL at this
      have := (List.mem_filter.mp this).2
      simp [hyr] at this
    rcases List.mem_append.mp hr with h | h
    · exact fun hxc => hdis x hxc h
    · exact hide_steps ok h2 hv hdis x h
end MX

set_option linter.all false
set_option maxRecDepth 10000
namespace LH
open DL TB PX LX MX
variable {G : Nat → Option Fn}
structure GH5 (G : Nat → Option Fn) : Prop extends GH4 G where
  lreached : G 29 = some (.pure lReachedS)
  told : G 31 = some (.gen toldHS)
  due : G 32 = some (.pure dueHS)
  start : G 35 = some (.gen startS)
  unknowns : G 36 = some (.gen LX.unknownsS)
  model : G 37 = some (.gen modelS)
  shape : G 38 = some (.gen shapeS)
  odd : G 39 = some (.gen oddS)
def lawHS : FSp := fun ds _ k _ => ∃ ns : List Int, ds = [.scr ns] ∧ ns.length ≤ 100 ∧ ∀ m', k (.bl true) m'
theorem fm2 : ∀ j : Nat, j < 4 → (0 + (j : Int) * 1).fmod 2 = ((j % 2 : Nat) : Int) := by decide
theorem plain_strT (l : List S) : plain (strT l) = true := by unfold strT; rw [plain_tup, plains_strs]
theorem depth_strT (l : List S) : depth (strT l) = 1 := by unfold strT; rw [depth_tup, depths_strs]
theorem plains_sets (l : List (List S)) : plains (l.map strT) = true := plains_map plain_strT l
theorem depths_sets (l : List (List S)) : depths (l.map strT) ≤ 1 := depths_map (fun x => Nat.le_of_eq (depth_strT x)) l
/-- the names that no hidden set has are those that are reached -/
theorem found_eq {sh : Sh} (ok : MdOk sh) {rd : List S} (h : rd = sh.names.filter fun n => decide (n ∈ rd)) : (sh.names.filter fun x => ((hiddenL sh rd).filter fun c => decide (x ∈ c)).isEmpty) = reachedL sh rd := by
  have ho := ok.sh
  have e : (sh.names.filter fun x => ((hiddenL sh rd).filter fun c => decide (x ∈ c)).isEmpty) = sh.names.filter fun x => decide (x ∈ reachedL sh rd) := by
    refine List.filter_congr fun x hx => ?_
    have := hidden_iff ho h hx
    rw [Bool.eq_iff_iff, List.isEmpty_iff, decide_eq_true_eq, ← this, List.filter_eq_nil_iff]
    simp
  rw [e]
  have hn := steps_nodup ho h
  have hnr : (reachedL sh rd).Nodup := (sort_perm _).nodup_iff.mpr hn
  have hsub : ∀ x ∈ reachedL sh rd, x ∈ sh.names := fun x hx => by
    have hx : x ∈ rd ++ (stepsOf sh rd).map (·.2) := (sort_perm _).subset hx
    have h0 := part_ok ho h
    obtain ⟨h1, _⟩ := lIter_ok ho h0 sh.names.length
    rcases List.mem_append.mp hx with q | q
    · exact h0.sub x q
    · exact h1.sub x (steps_in (lIter_closed ho h0) (steps_valid ho sh.names.length rd) h1.hold x q)
  refine sorted_uniq ((List.perm_ext_iff_of_nodup (ok.nm.nd.sublist List.filter_sublist) hnr).mpr fun x => ?_) (ok.nm.srt.sublist List.filter_sublist) (sort_pw _)
  rw [List.mem_filter]
  exact ⟨fun hx => by simpa using hx.2, fun hx => ⟨hsub x hx, by simpa using hx⟩⟩
theorem d_lawH (g : GH5 G) : ∀ ds m k e, lawHS ds m k e → rdF G 15 B_law_v1 ds m k e := by
  rintro ds m0 k e ⟨ns, rfl, hn, hk⟩
  (simp only [rdF, B_law_v1, List.map_cons, List.map_nil, List.length_cons, List.length_nil, Nat.zero_add, Nat.reduceAdd, Nat.reduceSub, List.replicate_succ, List.replicate_zero, List.cons_append, List.nil_append]; rw [O.ssCons])
  (try simp! only [callG g.start])
  refine ⟨ns, rfl, hn, fun a b m hs _ => ?_⟩
  ((try dsimp only); rw [B_law_v1_t1, O.ssCons]; simp! only [callG g.unknowns])
  refine ⟨a, b, 0, 8, rfl, hs, by decide, by decide, by decide, fun names m1 nok d1 => ?_⟩
  have h8 := nok.n8
  ((try dsimp only); rw [B_law_v1_t2, O.ssCons]; simp! only [callG g.model])
  refine ⟨a, b, _, names, 8, rfl, d1.1, by decide, nok, by decide, by decide, fun rows1 m2 ok1 d2 => ?_⟩
  (try simp! only [callG g.model])
  refine ⟨a, b, _, names, 8, rfl, d2.1, by decide, nok, by decide, by decide, fun rows2 m3 ok2 d3 => ?_⟩
  have d13 := (d1.trans d2).trans d3
  ((try dsimp only); rw [B_law_v1_t3, O.ssCons]; simp! only)
  obtain ⟨shs, hshs⟩ : ∃ shs : List Sh, shs = [⟨names, rows1⟩, ⟨names, rows2⟩] := ⟨_, rfl⟩
  have hmd : ∀ sh ∈ shs, MdOk sh ∧ sh.names = names := fun sh h => by
    rw [hshs] at h
    simp only [List.mem_cons, List.not_mem_nil, or_false] at h
    rcases h with rfl | rfl
    · exact ⟨ok1, rfl⟩
    · exact ⟨ok2, rfl⟩
  have hl2 : shs.length = 2 := by rw [hshs]; rfl
  have he : [mdD ⟨names, rows1⟩, mdD ⟨names, rows2⟩] = shs.map mdD := by rw [hshs]; rfl
  rw [he]
  clear he hshs ok1 ok2
  refine compW_st (f := mdD) (fun done acc m' => acc = done.map shD ∧ Dr m m' a b (640 + 10 * done.length)) ⟨rfl, d13.mono (by decide)⟩ ?_ ?_
  · rintro done sh rest acc m' e1 ⟨rfl, hd⟩ kk hk1 hk2
    have hlen := congrArg List.length e1
    simp only [List.length_append, List.length_cons] at hlen
    refine ⟨trivial, ?_⟩
    (try simp! only [callG g.shape])
    refine ⟨a, b, _, sh, rfl, hd.1, by omega, (hmd sh (by rw [e1]; simp)).1, fun m4 d4 => ?_⟩
    exact hk1 _ _ ⟨by simp, (hd.trans d4).mono (by simp only [List.length_append, List.length_cons, List.length_nil]; omega)⟩
  rintro acc m4 ⟨rfl, hd4⟩
  refine ⟨trivial, ?_⟩
  rw [hl2] at hd4
  ((try dsimp only); rw [B_law_v1_t4, O.ssCons]; simp! only)
  refine ⟨by decide, by decide, ?_⟩
  unfold rangeL
  refine forW_map (f := fun i : Nat => DV.int (0 + (i : Int) * 1)) (fun done r m' => ∃ w5 w6 w7 w8 w10 w11 w12, r = [some (.scr ns), some (.loc a), some (strT names), some (.lst (shs.map mdD)), some (.lst (shs.map shD)), w5, w6, w7, w8, none, w10, w11, w12, none, none] ∧ Dr m m' a b (700 + 60 * done.length)) ⟨_, _, _, _, _, _, _, rfl, hd4.mono (by omega)⟩ ?_ ?_
  · rintro done j rest r m5 e1 ⟨w5, w6, w7, w8, w10, w11, w12, rfl, hd⟩ K hK
    obtain ⟨hj, hj2⟩ := range_split e1
    have hj3 : j < 4 := by simpa using hj2
    have hd3 : done.length < 4 := by omega
    refine ⟨trivial, ?_⟩
    (try simp! only)
    ((try dsimp only); rw [B_law_v1_b1, O.ssCons]; simp! only [callG g.take])
    refine ⟨a, b, _, 3, rfl, hd.1, by omega, by decide, by decide, fun r6 m6 h0 h1 d6 => ?_⟩
    obtain ⟨c, hc, hc2⟩ := pick (xs := [2, 4, 9]) h0 h1
    have hc3 : 0 < c ∧ c < 10 := by
      simp only [List.mem_cons, List.not_mem_nil, or_false] at hc2
      omega
    refine ⟨_, hc, ?_⟩
    (try simp! only [callG g.part])
    refine ⟨a, b, _, _, names, c, rfl, d6.1, by omega, .inl rfl, by omega, by omega, by omega, fun p m7 hp d7 => ?_⟩
    have hpart : p = names.filter fun n => decide (n ∈ p) := sub_filter hp nok.nd
    have hpB : isPartB names (strT p) = true := by rw [isPart_tup]; simpa using hpart
    have hd7 := ((hd.trans d6).trans d7).mono (n' := 700 + 60 * done.length + 10) (by omega)
    ((try dsimp only); rw [B_law_v1_b1_t1, O.ssCons]; simp! only [callG g.shuffled])
    refine ⟨a, b, _, _, _, rfl, hd7.1, by omega, .inl rfl, by simp, by simp, by simp, fun ys c' m11 hpm hc' d11 hm11 => ?_⟩
    simp only [List.length_cons, List.length_nil, Nat.zero_add, Nat.reduceAdd] at d11
    obtain ⟨l, rfl, hl⟩ := nat2 hpm
    have hd11 := (hd7.trans d11).mono (n' := 700 + 60 * done.length + 12) (by omega)
    refine ⟨_, by rw [look_loc hm11]; rfl, (fun s h => by rw [look_loc hm11] at h; cases h), ?_⟩
    refine forW_map (f := fun n : Nat => DV.int (n : Int)) (fun dn r m' => ∃ w7 w10 w11 w12, r = [some (.scr ns), some (.loc a), some (strT names), some (.lst (shs.map mdD)), some (.lst (shs.map shD)), some (.int (0 + (j : Int) * 1)), some (strT p), w7, w8, none, w10, w11, w12, none, none] ∧ Dr m m' a b (700 + 60 * done.length + 12) ∧ m' c' = some (.lst (l.map fun n : Nat => DV.int (n : Int)))) ⟨_, _, _, _, rfl, hd11, hm11⟩ ?_ ?_
    · rintro dn i rest2 r m12 e2 ⟨w7, w10, w11, w12, rfl, hd12, hm12⟩ K2 hK2
      refine ⟨by rw [look_loc hm12]; rfl, ?_⟩
      have hi : i < shs.length := by rw [hl2]; exact hl i (by rw [e2]; simp)
      have hsi := List.getElem?_eq_getElem hi
      have ha1 : atD (shs.map mdD) (i : Int) = some (mdD shs[i]) := atD_nat (by rw [List.getElem?_map, hsi]; rfl)
      have ha2 : atD (shs.map shD) (i : Int) = some (shD shs[i]) := atD_nat (by rw [List.getElem?_map, hsi]; rfl)
      obtain ⟨mok, hnm⟩ := hmd _ (List.getElem_mem hi)
      generalize shs[i] = sh at ha1 ha2 mok hnm
      have ok := mok.sh
      have hpB' : isPartB sh.names (strT p) = true := by rw [hnm]; exact hpB
      have hpart' : p = sh.names.filter fun n => decide (n ∈ p) := by rw [hnm]; exact hpart
      have hpl : p.length ≤ 8 := Nat.le_trans hp.length_le h8
      have hmn : isLoc (mdD sh) = false := rfl
      have hml : ∀ m : Mu, look m (mdD sh) = mdD sh := fun _ => rfl
      have hsl : ∀ (m : Mu) (l : List S), look m (strT l) = strT l := fun _ _ => rfl
      have hsn : ∀ l : List S, isLoc (strT l) = false := fun _ => rfl
      (try simp! only)
      ((try dsimp only); rw [B_law_v1_b2, O.ssCons]; simp! only [callP g.due, ha1, Option.some.injEq, exists_eq_left', hml, hmn, hsl, hsn])
      refine ⟨sh, p, rfl, ok, ?_⟩
      (try simp! only)
      ((try dsimp only); rw [B_law_v1_b2_t1, O.ssCons]; simp! only [callG g.told, ha2, Option.some.injEq, exists_eq_left'])
      refine ⟨by decide, j % 2, sh, strT p, by rw [fm2 j hj3], by omega, ok, vOk_strT, fun h => ?_, fun rd' e' _ a1 ha1' => ?_⟩
      · rw [hpB'] at h
        cases h
      have := strT_inj e'
      subst this
      have hfe := found_eq mok hpart'
      have hput : ((m12.put a1 (.lst ((hiddenL sh p).map strT))) a1) = some (.lst ((hiddenL sh p).map strT)) := put_same
      have hds := depths_sets (hiddenL sh p)
      (try simp! only)
      ((try dsimp only); rw [B_law_v1_b2_t2, O.ssCons]; simp! only [look_loc hput])
      refine ⟨EqT.pair (EqT.lst hput (plains_sets _) (by omega)), ?_⟩
      ((try dsimp only); rw [B_law_v1_b2_t3, O.ssCons]; simp! only [strT])
      refine compW_flt (f := DV.str) (fun x => ((hiddenL sh p).filter fun c => decide (x ∈ c)).isEmpty) trivial (fun x _ kk h => ?_) ?_
      · (try simp! only)
        refine compW_flt (f := strT) (fun c => decide (x ∈ c)) trivial (fun c _ kk h => ?_) ?_
        · (try simp! only [strT])
          by_cases hx : x ∈ c <;> simpa [hx, strT] using h
        · have hd2 := depths_sets ((hiddenL sh p).filter fun c => decide (x ∈ c))
          have hp2 := plains_sets ((hiddenL sh p).filter fun c => decide (x ∈ c))
          generalize (hiddenL sh p).filter (fun c => decide (x ∈ c)) = fl at h hd2 hp2
          (try simp! only [ne_nil, hp2, List.isEmpty_map])
          refine ⟨by omega, ?_⟩
          cases hfl : fl.isEmpty with
          | true =>
            rw [hfl] at h
            (try simp! only)
            simpa using h
          | false =>
            rw [hfl] at h
            (try simp! only)
            simpa using h
      have hfe' : (names.filter fun x => ((hiddenL sh p).filter fun c => decide (x ∈ c)).isEmpty) = reachedL sh p := by rw [← hnm]; exact hfe
      rw [hfe']
      have hps : ∀ l : List S, plain (.tup (l.map DV.str)) = true := plain_strT
      (try simp! only)
      ((try dsimp only); rw [B_law_v1_b2_t4, O.ssCons]; simp! only [callP g.lreached, ha1, ha2, Option.some.injEq, exists_eq_left', hml, hmn, hsl, hsn])
      refine ⟨sh, p, rfl, ok, hpl, ?_⟩
      rw [reach_eq ok hpart']
      (try simp! only [strT])
      refine iteF (by decide) ?_
      (try simp! only [callP g.reached, look_shD, il_shD])
      refine ⟨sh, strT p, rfl, ok, vOk_strT, fun h => ?_, fun rd' e' _ => ?_⟩
      · rw [hpB'] at h
        cases h
      have := strT_inj e'
      subst this
      (try simp! only [strT])
      refine iteF (by decide) ?_
      have hll : (hiddenL sh p).length ≤ 256 := by
        have hul : (unreadL sh p).length ≤ 8 := Nat.le_trans (List.length_filter_le _ _) ok.n8
        have h1 := pow8 hul
        have h2 := List.length_filter_le (fun c => sh.rows.all (hideR c)) ((setsL (unreadL sh p)).drop 1)
        have h3 : ((setsL (unreadL sh p)).drop 1).length ≤ 256 := by
          rw [List.length_drop, sets_len]
          omega
        exact Nat.le_trans h2 h3
      ((try dsimp only); rw [B_law_v1_b2_t5, O.ssCons]; simp! only [look_loc hput])
      refine ⟨_, hput, by rw [List.length_map]; exact Nat.lt_of_le_of_lt hll (by decide), ?_⟩
      rw [put_put]
      obtain ⟨m13, hm13⟩ : ∃ m13, m13 = m12.put a1 (.lst ((hiddenL sh p).map strT ++ [.tup [.str [122, 122, 55]]])) := ⟨_, rfl⟩
      have hd13 : Dr m m13 a b (700 + 60 * done.length + 12) := by rw [hm13]; exact hd12.put ha1'
      have hc13 : m13 c' = some (.lst (l.map fun n : Nat => DV.int (n : Int))) := by
        rw [hm13, put_ne (ne_of_some hm12 ha1')]
        exact hm12
      rw [← hm13]
      ((try dsimp only); rw [B_law_v1_b2_t6, O.ssCons]; simp! only [callG g.told, ha2, Option.some.injEq, exists_eq_left'])
      refine ⟨1, sh, strT p, rfl, by decide, ok, vOk_strT, fun h => ?_, fun rd' e' _ a2 ha2' => ?_⟩
      · rw [hpB'] at h
        cases h
      have := strT_inj e'
      subst this
      have hput2 : ((m13.put a2 (.lst ((hiddenL sh p).map strT))) a2) = some (.lst ((hiddenL sh p).map strT)) := put_same
      (try simp! only [look_loc hput2])
      refine ⟨EqT.pair (EqT.lst hput2 (plains_sets _) (by omega)), ?_⟩
      refine hK2 _ _ ⟨_, _, _, _, rfl, hd13.put ha2', ?_⟩
      rw [put_ne (ne_of_some hc13 ha2')]
      exact hc13
    · rintro r m12 ⟨w7, w10, w11, w12, rfl, hd12, hm12⟩
      refine ⟨by rw [look_loc hm12]; rfl, ?_⟩
      have h0 : 0 < shs.length := by omega
      have hs0 := List.getElem?_eq_getElem h0
      have ha0 : atD (shs.map shD) 0 = some (shD shs[0]) := atD_nat (n := 0) (by rw [List.getElem?_map, hs0]; rfl)
      obtain ⟨mok, hnm⟩ := hmd _ (List.getElem_mem h0)
      generalize shs[0] = sh at ha0 mok hnm
      ((try dsimp only); rw [B_law_v1_b1_t2, O.ssCons]; simp! only [callG g.odd])
      refine ⟨a, b, _, names, rfl, hd12.1, by omega, nok, fun v m9 hv d9 => ?_⟩
      ((try dsimp only); rw [B_law_v1_b1_t3, O.ssCons]; simp! only [callG g.told, ha0, Option.some.injEq, exists_eq_left'])
      refine ⟨by decide, j % 2, sh, v, by rw [fm2 j hj3], by omega, mok.sh, hv.ok, fun _ => ?_, fun rd e' hh => ?_⟩
      · (try simp! only)
        refine ⟨EqT.pair (EqT.sm hv.1), ?_⟩
        exact hK _ _ ⟨_, _, _, _, _, _, _, rfl, (hd12.trans d9).mono (by simp only [List.length_append, List.length_cons, List.length_nil]; omega)⟩
      · rw [hnm, hv.2] at hh
        cases hh
  · rintro r m5 ⟨w5, w6, w7, w8, w10, w11, w12, rfl, hd⟩
    refine ⟨trivial, ?_⟩
    ((try dsimp only); rw [B_law_v1_t5, O.ssCons]; simp! only)
    exact hk m5
end LH

set_option Elab.async false
set_option linter.all false
set_option maxRecDepth 100000
set_option maxHeartbeats 0
namespace K27
open PySem PySem.Spec PyProof.Rows L2 DL
def top (i : Nat) : Stmt := PySem.Challenge.pw_anyfactors_k27_hidden_sets.main.body.getD i (.Pass ⟨0, 0, 0, 0⟩)
def inC (i j : Nat) : Stmt := match top i with
  | .ClassDef _ _ _ b _ _ _ _ _ _ _ => b.getD j (.Pass ⟨0, 0, 0, 0⟩)
  | s => s
def gL : List (Nat × Fn) := [(0, .pure PX.isPartS),
  (1, .pure PX.validNameS),
  (3, .pure PX.checkUnknownsS),
  (4, .pure PX.isRowS),
  (7, .pure PX.isSetS),
  (8, .pure PX.isIntegerS),
  (9, .pure PX.isStepS),
  (10, .pure PX.checkReadingsS),
  (11, .pure PX.validFromS),
  (12, .pure PX.nextStepS),
  (13, .gen PX.stepsFromS),
  (14, .pure PX.checkNameS),
  (15, .pure PX.reachedS),
  (16, .gen LX.takeS),
  (17, .gen LX.shuffledS),
  (18, .gen LX.partS),
  (19, .gen LX.rowS),
  (20, .pure LX.setsS),
  (29, .pure LX.lReachedS),
  (31, .gen LH.toldHS),
  (32, .pure LH.dueHS),
  (35, .gen LX.startS),
  (36, .gen LX.unknownsS),
  (37, .gen LX.modelS),
  (38, .gen LX.shapeS),
  (39, .gen LX.oddS),
  (41, .pure PX.setRankS),
  (43, .pure PX.partedS),
  (44, .pure PX.allSetsS),
  (45, .pure PX.canHideS),
  (46, .gen PX.hiddenS),
  (47, .gen (kwG [1, 0] 2 PX.hiddenS)),
  (1003, .pure PX.unknownsS),
  (1004, .pure PX.rowsS),
  (1005, .gen PX.mkS)]
def G : Nat → Option Fn := fun n => gL.lookup n
theorem gGH5 : LH.GH5 G := { unk := rfl, rws := rfl, isPart := rfl, isSet := rfl, isInt := rfl, isStep := rfl, nextStep := rfl, checkReadings := rfl, checkName := rfl, stepsFrom := rfl, reached := rfl, validFrom := rfl, checkUnknowns := rfl, isRow := rfl, take := rfl, shuffled := rfl, part := rfl, row := rfl, mkSh := rfl, sets := rfl, setRank := rfl, parted := rfl, allSets := rfl, canHide := rfl, hidden := rfl, kHidden := rfl, lreached := rfl, told := rfl, due := rfl, start := rfl, unknowns := rfl, model := rfl, shape := rfl, odd := rfl }
theorem gGH4 : LH.GH4 G := gGH5.toGH4
theorem gGH3 : PX.GH3 G := gGH4.toGH3
theorem gGH2 : PX.GH2 G := gGH3.toGH2
theorem gGH1 : PX.GH1 G := gGH2.toGH1
theorem gGL5 : LX.GL5 G := gGH1.toGL5
theorem gGL4 : LX.GL4 G := gGL5.toGL4
theorem gGL3 : LX.GL3 G := gGL4.toGL3
theorem gGL2 : LX.GL2 G := gGL3.toGL2
theorem gGL1 : LX.GL1 G := gGL2.toGL1
theorem gGL : LX.GL G := gGL1.toGL
theorem gGP6 : PX.GP6 G := gGL.toGP6
theorem gGP5 : PX.GP5 G := gGP6.toGP5
theorem gGP4 : PX.GP4 G := gGP5.toGP4
theorem gGP3 : PX.GP3 G := gGP4.toGP3
theorem gGP2 : PX.GP2 G := gGP3.toGP2
theorem gGP : PX.GP G := gGP2.toGP
def gls : List (PySem.Str × DV) := [("LETTERS", .str TB.txt1), ("DIGITS", .str TB.txt2), ("LONGEST", .int 6), ("MOST", .int 8)]
def exs : List Nat := [0, 1, 2, 3, 4, 5, 6, 7]
def c0 : Cfg := ⟨[], [], gls, [(1, ⟨3, 0, "lines"⟩), (0, ⟨3, 0, "names"⟩)], exs⟩
theorem ck__law_start : chkSs { c0 with N := ["_law_script", "_law_cell"] } (defScope (top 42)) (fun _ => true) TB.B_law_start (defBody (top 42)) = true := by decide +kernel
theorem sc__law_start : FnScope ["_law_script", "_law_cell"] ["_law_script"] (defScope (top 42)) := ⟨rfl, rfl, rfl, by decide +kernel, rfl, by decide +kernel, by decide +kernel⟩
def c1 : Cfg := { c0 with fns := (35, ("_law_start", [])) :: c0.fns }
theorem ck__law_take : chkSs { c1 with N := ["_law_state", "_law_limit", "_law_cells", "_law_at", "_law_cell", "_law_number"] } (defScope (top 43)) (fun _ => true) TB.B_law_take (defBody (top 43)) = true := by decide +kernel
theorem sc__law_take : FnScope ["_law_state", "_law_limit", "_law_cells", "_law_at", "_law_cell", "_law_number"] ["_law_state", "_law_limit"] (defScope (top 43)) := ⟨rfl, rfl, rfl, by decide +kernel, rfl, by decide +kernel, by decide +kernel⟩
def c2 : Cfg := { c1 with fns := (16, ("_law_take", [])) :: c1.fns }
theorem ck__law_shuffled : chkSs { c2 with N := ["_law_state", "_law_items", "_law_left", "_law_told_here", "_law_k"] } (defScope (top 44)) (fun _ => true) TB.B_law_shuffled (defBody (top 44)) = true := by decide +kernel
theorem sc__law_shuffled : FnScope ["_law_state", "_law_items", "_law_left", "_law_told_here", "_law_k"] ["_law_state", "_law_items"] (defScope (top 44)) := ⟨rfl, rfl, rfl, by decide +kernel, rfl, by decide +kernel, by decide +kernel⟩
def c3 : Cfg := { c2 with fns := (17, ("_law_shuffled", [])) :: c2.fns }
theorem ck__law_unknowns : chkSs { c3 with N := ["_law_state", "_law_most", "_law_lists", "_law_words"] } (defScope (top 45)) (fun _ => true) TB.B_law_unknowns (defBody (top 45)) = true := by decide +kernel
theorem sc__law_unknowns : FnScope ["_law_state", "_law_most", "_law_lists", "_law_words"] ["_law_state", "_law_most"] (defScope (top 45)) := ⟨rfl, rfl, rfl, by decide +kernel, rfl, by decide +kernel, by decide +kernel⟩
def c4 : Cfg := { c3 with fns := (36, ("_law_unknowns", [])) :: c3.fns }
theorem ck__law_part : chkSs { c4 with N := ["_law_state", "_law_names", "_law_chance", "_law_name"] } (defScope (top 46)) (fun _ => true) TB.B_law_part (defBody (top 46)) = true := by decide +kernel
theorem sc__law_part : FnScope ["_law_state", "_law_names", "_law_chance", "_law_name"] ["_law_state", "_law_names", "_law_chance"] (defScope (top 46)) := ⟨rfl, rfl, rfl, by decide +kernel, rfl, by decide +kernel, by decide +kernel⟩
def c5 : Cfg := { c4 with fns := (18, ("_law_part", [])) :: c4.fns }
theorem ck__law_row : chkSs { c5 with N := ["_law_state", "_law_names", "_law_chance", "_law_sure", "_law_left", "_law_name"] } (defScope (top 47)) (fun _ => true) TB.B_law_row (defBody (top 47)) = true := by decide +kernel
theorem sc__law_row : FnScope ["_law_state", "_law_names", "_law_chance", "_law_sure", "_law_left", "_law_name"] ["_law_state", "_law_names"] (defScope (top 47)) := ⟨rfl, rfl, rfl, by decide +kernel, rfl, by decide +kernel, by decide +kernel⟩
def c6 : Cfg := { c5 with fns := (19, ("_law_row", [])) :: c5.fns }
theorem ck__law_model : chkSs { c6 with N := ["_law_state", "_law_names", "_law_most", "_law_k"] } (defScope (top 48)) (fun _ => true) TB.B_law_model (defBody (top 48)) = true := by decide +kernel
theorem sc__law_model : FnScope ["_law_state", "_law_names", "_law_most", "_law_k"] ["_law_state", "_law_names", "_law_most"] (defScope (top 48)) := ⟨rfl, rfl, rfl, by decide +kernel, rfl, by decide +kernel, by decide +kernel⟩
def c7 : Cfg := { c6 with fns := (37, ("_law_model", [])) :: c6.fns }
theorem ck_valid_name : chkSs { c7 with N := ["text", "char"] } (defScope (top 15)) (fun _ => true) TB.B_valid_name (defBody (top 15)) = true := by decide +kernel
theorem sc_valid_name : FnScope ["text", "char"] ["text"] (defScope (top 15)) := ⟨rfl, rfl, rfl, by decide +kernel, rfl, by decide +kernel, by decide +kernel⟩
def c8 : Cfg := { c7 with fns := (1, ("valid_name", [])) :: c7.fns }
theorem ck_check_unknowns : chkSs { c8 with N := ["names", "earlier", "name"] } (defScope (top 24)) (fun _ => true) TB.B_check_unknowns (defBody (top 24)) = true := by decide +kernel
theorem sc_check_unknowns : FnScope ["names", "earlier", "name"] ["names"] (defScope (top 24)) := ⟨rfl, rfl, rfl, by decide +kernel, rfl, by decide +kernel, by decide +kernel⟩
def c9 : Cfg := { c8 with fns := (3, ("check_unknowns", [])) :: c8.fns }
theorem ck_is_part : chkSs { c9 with N := ["names", "value", "name"] } (defScope (top 16)) (fun _ => true) TB.B_is_part (defBody (top 16)) = true := by decide +kernel
theorem sc_is_part : FnScope ["names", "value", "name"] ["names", "value"] (defScope (top 16)) := ⟨rfl, rfl, rfl, by decide +kernel, rfl, by decide +kernel, by decide +kernel⟩
def c10 : Cfg := { c9 with fns := (0, ("is_part", [])) :: c9.fns }
theorem ck_is_row : chkSs { c10 with N := ["names", "value", "name"] } (defScope (top 25)) (fun _ => true) TB.B_is_row (defBody (top 25)) = true := by decide +kernel
theorem sc_is_row : FnScope ["names", "value", "name"] ["names", "value"] (defScope (top 25)) := ⟨rfl, rfl, rfl, by decide +kernel, rfl, by decide +kernel, by decide +kernel⟩
def c11 : Cfg := { c10 with fns := (4, ("is_row", [])) :: c10.fns }
theorem ck_Shape_u__init_u_ : chkSs { c11 with N := ["self", "unknowns", "rows", "row"] } (defScope (inC 30 0)) (fun _ => true) TB.B_Shape___init__ (defBody (inC 30 0)) = true := by decide +kernel
theorem sc_Shape_u__init_u_ : FnScope ["self", "unknowns", "rows", "row"] ["self", "unknowns", "rows"] (defScope (inC 30 0)) := ⟨rfl, rfl, rfl, by decide +kernel, rfl, by decide +kernel, by decide +kernel⟩
def c12 : Cfg := { c11 with mts := (5, ⟨2, 0, "Shape"⟩) :: c11.mts }
theorem ck__law_shape : chkSs { c12 with N := ["_law_state", "_law_model_here"] } (defScope (top 49)) (fun _ => true) TB.B_law_shape (defBody (top 49)) = true := by decide +kernel
theorem sc__law_shape : FnScope ["_law_state", "_law_model_here"] ["_law_state", "_law_model_here"] (defScope (top 49)) := ⟨rfl, rfl, rfl, by decide +kernel, rfl, by decide +kernel, by decide +kernel⟩
def c13 : Cfg := { c12 with fns := (38, ("_law_shape", [])) :: c12.fns }
theorem ck__law_sets : chkSs { c13 with N := ["_law_names", "_law_rows", "_law_name", "_law_size", "_law_row_here"] } (defScope (top 50)) (fun _ => true) TB.B_law_sets (defBody (top 50)) = true := by decide +kernel
theorem sc__law_sets : FnScope ["_law_names", "_law_rows", "_law_name", "_law_size", "_law_row_here"] ["_law_names"] (defScope (top 50)) := ⟨rfl, rfl, rfl, by decide +kernel, rfl, by decide +kernel, by decide +kernel⟩
def c14 : Cfg := { c13 with fns := (20, ("_law_sets", [])) :: c13.fns }
theorem ck__law_due : chkSs { c14 with N := ["_law_model_here", "_law_known", "_law_unread", "_law_told_here", "_law_chosen", "_law_good", "_law_sure", "_law_perhaps", "_law_inside", "_law_name"] } (defScope (top 53)) (fun _ => true) TB.B_law_due_v1 (defBody (top 53)) = true := by decide +kernel
theorem sc__law_due : FnScope ["_law_model_here", "_law_known", "_law_unread", "_law_told_here", "_law_chosen", "_law_good", "_law_sure", "_law_perhaps", "_law_inside", "_law_name"] ["_law_model_here", "_law_known"] (defScope (top 53)) := ⟨rfl, rfl, rfl, by decide +kernel, rfl, by decide +kernel, by decide +kernel⟩
def c15 : Cfg := { c14 with fns := (32, ("_law_due", [])) :: c14.fns }
theorem ck_is_set : chkSs { c15 with N := ["names", "value"] } (defScope (top 23)) (fun _ => true) TB.B_is_set (defBody (top 23)) = true := by decide +kernel
theorem sc_is_set : FnScope ["names", "value"] ["names", "value"] (defScope (top 23)) := ⟨rfl, rfl, rfl, by decide +kernel, rfl, by decide +kernel, by decide +kernel⟩
def c16 : Cfg := { c15 with fns := (7, ("is_set", [])) :: c15.fns }
theorem ck_Shape_unknowns : chkSs { c16 with N := ["self"] } (defScope (inC 30 2)) (fun _ => true) TB.B_Shape_unknowns (defBody (inC 30 2)) = true := by decide +kernel
theorem sc_Shape_unknowns : FnScope ["self"] ["self"] (defScope (inC 30 2)) := ⟨rfl, rfl, rfl, by decide +kernel, rfl, by decide +kernel, by decide +kernel⟩
def c17 : Cfg := { c16 with mts := (3, ⟨0, 0, "unknowns"⟩) :: c16.mts }
theorem ck_check_readings : chkSs { c17 with N := ["shape", "readings"] } (defScope (top 32)) (fun _ => true) TB.B_check_readings (defBody (top 32)) = true := by decide +kernel
theorem sc_check_readings : FnScope ["shape", "readings"] ["shape", "readings"] (defScope (top 32)) := ⟨rfl, rfl, rfl, by decide +kernel, rfl, by decide +kernel, by decide +kernel⟩
def c18 : Cfg := { c17 with fns := (10, ("check_readings", [])) :: c17.fns }
theorem ck_set_rank : chkSs { c18 with N := ["names"] } (defScope (top 19)) (fun _ => true) TB.B_set_rank (defBody (top 19)) = true := by decide +kernel
theorem sc_set_rank : FnScope ["names"] ["names"] (defScope (top 19)) := ⟨rfl, rfl, rfl, by decide +kernel, rfl, by decide +kernel, by decide +kernel⟩
def c19 : Cfg := { c18 with fns := (41, ("set_rank", [])) :: c18.fns }
theorem ck_all_sets : chkSs { c19 with N := ["names", "found", "name", "chosen"] } (defScope (top 22)) (fun _ => true) TB.B_all_sets (defBody (top 22)) = true := by decide +kernel
theorem sc_all_sets : FnScope ["names", "found", "name", "chosen"] ["names"] (defScope (top 22)) := ⟨rfl, rfl, rfl, by decide +kernel, rfl, by decide +kernel, by decide +kernel⟩
def c20 : Cfg := { c19 with fns := (44, ("all_sets", [])) :: c19.fns }
theorem ck_parted : chkSs { c20 with N := ["names", "chosen", "name"] } (defScope (top 38)) (fun _ => true) TB.B_parted (defBody (top 38)) = true := by decide +kernel
theorem sc_parted : FnScope ["names", "chosen", "name"] ["names", "chosen"] (defScope (top 38)) := ⟨rfl, rfl, rfl, by decide +kernel, rfl, by decide +kernel, by decide +kernel⟩
def c21 : Cfg := { c20 with fns := (43, ("parted", [])) :: c20.fns }
theorem ck_Shape_rows : chkSs { c21 with N := ["self"] } (defScope (inC 30 3)) (fun _ => true) TB.B_Shape_rows (defBody (inC 30 3)) = true := by decide +kernel
theorem sc_Shape_rows : FnScope ["self"] ["self"] (defScope (inC 30 3)) := ⟨rfl, rfl, rfl, by decide +kernel, rfl, by decide +kernel, by decide +kernel⟩
def c22 : Cfg := { c21 with mts := (4, ⟨0, 0, "rows"⟩) :: c21.mts }
theorem ck_can_hide : chkSs { c22 with N := ["shape", "chosen", "sure", "perhaps"] } (defScope (top 39)) (fun _ => true) TB.B_can_hide (defBody (top 39)) = true := by decide +kernel
theorem sc_can_hide : FnScope ["shape", "chosen", "sure", "perhaps"] ["shape", "chosen"] (defScope (top 39)) := ⟨rfl, rfl, rfl, by decide +kernel, rfl, by decide +kernel, by decide +kernel⟩
def c23 : Cfg := { c22 with fns := (45, ("can_hide", [])) :: c22.fns }
theorem ck_hidden_sets : chkSs { c23 with N := ["shape", "readings", "unread", "chosen", "name"] } (defScope (top 40)) (fun _ => true) TB.B_hidden_sets (defBody (top 40)) = true := by decide +kernel
theorem sc_hidden_sets : FnScope ["shape", "readings", "unread", "chosen", "name"] ["shape", "readings"] (defScope (top 40)) := ⟨rfl, rfl, rfl, by decide +kernel, rfl, by decide +kernel, by decide +kernel⟩
def c24 : Cfg := { c23 with fns := (46, ("hidden_sets", [])) :: c23.fns }
def c25 : Cfg := { c24 with fns := (47, ("hidden_sets", ["readings", "shape"])) :: c24.fns }
theorem ck__law_told : chkSs { c25 with N := ["_law_way", "_law_desk", "_law_known", "e"] } (defScope (top 54)) (fun _ => true) TB.B_law_told_v1 (defBody (top 54)) = true := by decide +kernel
theorem sc__law_told : FnScope ["_law_way", "_law_desk", "_law_known", "e"] ["_law_way", "_law_desk", "_law_known"] (defScope (top 54)) := ⟨rfl, rfl, rfl, by decide +kernel, rfl, by decide +kernel, by decide +kernel⟩
def c26 : Cfg := { c25 with fns := (31, ("_law_told", [])) :: c25.fns }
theorem ck_is_integer : chkSs { c26 with N := ["value"] } (defScope (top 17)) (fun _ => true) TB.B_is_integer (defBody (top 17)) = true := by decide +kernel
theorem sc_is_integer : FnScope ["value"] ["value"] (defScope (top 17)) := ⟨rfl, rfl, rfl, by decide +kernel, rfl, by decide +kernel, by decide +kernel⟩
def c27 : Cfg := { c26 with fns := (8, ("is_integer", [])) :: c26.fns }
theorem ck_is_step : chkSs { c27 with N := ["shape", "standing", "value", "number", "name", "sure", "perhaps", "other"] } (defScope (top 33)) (fun _ => true) TB.B_is_step (defBody (top 33)) = true := by decide +kernel
theorem sc_is_step : FnScope ["shape", "standing", "value", "number", "name", "sure", "perhaps", "other"] ["shape", "standing", "value"] (defScope (top 33)) := ⟨rfl, rfl, rfl, by decide +kernel, rfl, by decide +kernel, by decide +kernel⟩
def c28 : Cfg := { c27 with fns := (9, ("is_step", [])) :: c27.fns }
theorem ck_next_step : chkSs { c28 with N := ["shape", "standing", "number", "name", "sure", "perhaps"] } (defScope (top 34)) (fun _ => true) TB.B_next_step (defBody (top 34)) = true := by decide +kernel
theorem sc_next_step : FnScope ["shape", "standing", "number", "name", "sure", "perhaps"] ["shape", "standing"] (defScope (top 34)) := ⟨rfl, rfl, rfl, by decide +kernel, rfl, by decide +kernel, by decide +kernel⟩
def c29 : Cfg := { c28 with fns := (12, ("next_step", [])) :: c28.fns }
theorem ck_steps_from : chkSs { c29 with N := ["shape", "readings", "found", "standing", "step"] } (defScope (top 35)) (fun _ => true) TB.B_steps_from (defBody (top 35)) = true := by decide +kernel
theorem sc_steps_from : FnScope ["shape", "readings", "found", "standing", "step"] ["shape", "readings"] (defScope (top 35)) := ⟨rfl, rfl, rfl, by decide +kernel, rfl, by decide +kernel, by decide +kernel⟩
def c30 : Cfg := { c29 with fns := (13, ("steps_from", [])) :: c29.fns }
theorem ck_reached : chkSs { c30 with N := ["shape", "readings", "steps", "step"] } (defScope (top 36)) (fun _ => true) TB.B_reached (defBody (top 36)) = true := by decide +kernel
theorem sc_reached : FnScope ["shape", "readings", "steps", "step"] ["shape", "readings"] (defScope (top 36)) := ⟨rfl, rfl, rfl, by decide +kernel, rfl, by decide +kernel, by decide +kernel⟩
def c31 : Cfg := { c30 with fns := (15, ("reached", [])) :: c30.fns }
theorem ck__law_reached : chkSs { c31 with N := ["_law_model_here", "_law_readings1", "_law_standing", "_law_turn", "_law_sure", "_law_perhaps", "_law_open1", "_law_name"] } (defScope (top 51)) (fun _ => true) TB.B_law_reached (defBody (top 51)) = true := by decide +kernel
theorem sc__law_reached : FnScope ["_law_model_here", "_law_readings1", "_law_standing", "_law_turn", "_law_sure", "_law_perhaps", "_law_open1", "_law_name"] ["_law_model_here", "_law_readings1"] (defScope (top 51)) := ⟨rfl, rfl, rfl, by decide +kernel, rfl, by decide +kernel, by decide +kernel⟩
def c32 : Cfg := { c31 with fns := (29, ("_law_reached", [])) :: c31.fns }
theorem ck__law_odd_set : chkSs { c32 with N := ["_law_state", "_law_names", "_law_part_here", "_law_odd", "_law_thing"] } (defScope (top 52)) (fun _ => true) TB.B_law_odd_set (defBody (top 52)) = true := by decide +kernel
theorem sc__law_odd_set : FnScope ["_law_state", "_law_names", "_law_part_here", "_law_odd", "_law_thing"] ["_law_state", "_law_names"] (defScope (top 52)) := ⟨rfl, rfl, rfl, by decide +kernel, rfl, by decide +kernel, by decide +kernel⟩
def c33 : Cfg := { c32 with fns := (39, ("_law_odd_set", [])) :: c32.fns }
theorem ck_law : chkSs { c33 with N := ["_law_script", "_law_state", "_law_names", "_law_models", "_law_desks", "_law_turn", "_law_known", "_law_k", "_law_odd", "_law_model_here", "_law_due_here", "_law_told_here", "_law_found", "_law_name", "_law_chosen"] } (defScope (top 55)) (fun _ => true) TB.B_law_v1 (defBody (top 55)) = true := by decide +kernel
theorem sc_law : FnScope ["_law_script", "_law_state", "_law_names", "_law_models", "_law_desks", "_law_turn", "_law_known", "_law_k", "_law_odd", "_law_model_here", "_law_due_here", "_law_told_here", "_law_found", "_law_name", "_law_chosen"] ["_law_script"] (defScope (top 55)) := ⟨rfl, rfl, rfl, by decide +kernel, rfl, by decide +kernel, by decide +kernel⟩
theorem sx_0 : FnScope ["self", "name"] ["self", "name"] (defScope (inC 3 0)) := ⟨rfl, rfl, rfl, by decide +kernel, rfl, by decide +kernel, by decide +kernel⟩
theorem cx_0 : chkXI "FactorError" (errField 0) "name" (defBody (inC 3 0)) = true := by decide +kernel
theorem sx_1 : FnScope ["self", "name"] ["self", "name"] (defScope (inC 4 0)) := ⟨rfl, rfl, rfl, by decide +kernel, rfl, by decide +kernel, by decide +kernel⟩
theorem cx_1 : chkXI "FactorError" (errField 1) "name" (defBody (inC 4 0)) = true := by decide +kernel
theorem sx_2 : FnScope ["self", "name"] ["self", "name"] (defScope (inC 5 0)) := ⟨rfl, rfl, rfl, by decide +kernel, rfl, by decide +kernel, by decide +kernel⟩
theorem cx_2 : chkXI "FactorError" (errField 2) "name" (defBody (inC 5 0)) = true := by decide +kernel
theorem sx_3 : FnScope ["self", "count"] ["self", "count"] (defScope (inC 6 0)) := ⟨rfl, rfl, rfl, by decide +kernel, rfl, by decide +kernel, by decide +kernel⟩
theorem cx_3 : chkXI "FactorError" (errField 3) "count" (defBody (inC 6 0)) = true := by decide +kernel
theorem sx_4 : FnScope ["self", "value"] ["self", "value"] (defScope (inC 7 0)) := ⟨rfl, rfl, rfl, by decide +kernel, rfl, by decide +kernel, by decide +kernel⟩
theorem cx_4 : chkXI "FactorError" (errField 4) "value" (defBody (inC 7 0)) = true := by decide +kernel
theorem sx_5 : FnScope ["self", "value"] ["self", "value"] (defScope (inC 8 0)) := ⟨rfl, rfl, rfl, by decide +kernel, rfl, by decide +kernel, by decide +kernel⟩
theorem cx_5 : chkXI "FactorError" (errField 5) "value" (defBody (inC 8 0)) = true := by decide +kernel
theorem sx_6 : FnScope ["self", "text"] ["self", "text"] (defScope (inC 9 0)) := ⟨rfl, rfl, rfl, by decide +kernel, rfl, by decide +kernel, by decide +kernel⟩
theorem cx_6 : chkXI "FactorError" (errField 6) "text" (defBody (inC 9 0)) = true := by decide +kernel
theorem sx_7 : FnScope ["self", "value"] ["self", "value"] (defScope (inC 10 0)) := ⟨rfl, rfl, rfl, by decide +kernel, rfl, by decide +kernel, by decide +kernel⟩
theorem cx_7 : chkXI "FactorError" (errField 7) "value" (defBody (inC 10 0)) = true := by decide +kernel
def fExs (l : List Nat) (K : PySem.W.Frag) : Bool := l.all fun e => l.all fun e2 => decide (PySem.W.exmOne K (.ref (He.ga K (errName e))) (.ref (He.ga K (errName e2))) = some (e == e2))
def dl : List DefX := [⟨aG "_law_start", "_law_start", "_law_start", (top 42)⟩,
  ⟨aG "_law_take", "_law_take", "_law_take", (top 43)⟩,
  ⟨aG "_law_shuffled", "_law_shuffled", "_law_shuffled", (top 44)⟩,
  ⟨aG "_law_unknowns", "_law_unknowns", "_law_unknowns", (top 45)⟩,
  ⟨aG "_law_part", "_law_part", "_law_part", (top 46)⟩,
  ⟨aG "_law_row", "_law_row", "_law_row", (top 47)⟩,
  ⟨aG "_law_model", "_law_model", "_law_model", (top 48)⟩,
  ⟨aG "valid_name", "valid_name", "valid_name", (top 15)⟩,
  ⟨aG "check_unknowns", "check_unknowns", "check_unknowns", (top 24)⟩,
  ⟨aG "is_part", "is_part", "is_part", (top 16)⟩,
  ⟨aG "is_row", "is_row", "is_row", (top 25)⟩,
  ⟨aM "Shape" "__init__", "__init__", "Shape.__init__", (inC 30 0)⟩,
  ⟨aG "_law_shape", "_law_shape", "_law_shape", (top 49)⟩,
  ⟨aG "_law_sets", "_law_sets", "_law_sets", (top 50)⟩,
  ⟨aG "_law_due", "_law_due", "_law_due", (top 53)⟩,
  ⟨aG "is_set", "is_set", "is_set", (top 23)⟩,
  ⟨aP "Shape" "unknowns", "unknowns", "Shape.unknowns", (inC 30 2)⟩,
  ⟨aG "check_readings", "check_readings", "check_readings", (top 32)⟩,
  ⟨aG "set_rank", "set_rank", "set_rank", (top 19)⟩,
  ⟨aG "all_sets", "all_sets", "all_sets", (top 22)⟩,
  ⟨aG "parted", "parted", "parted", (top 38)⟩,
  ⟨aP "Shape" "rows", "rows", "Shape.rows", (inC 30 3)⟩,
  ⟨aG "can_hide", "can_hide", "can_hide", (top 39)⟩,
  ⟨aG "hidden_sets", "hidden_sets", "hidden_sets", (top 40)⟩,
  ⟨aG "_law_told", "_law_told", "_law_told", (top 54)⟩,
  ⟨aG "is_integer", "is_integer", "is_integer", (top 17)⟩,
  ⟨aG "is_step", "is_step", "is_step", (top 33)⟩,
  ⟨aG "next_step", "next_step", "next_step", (top 34)⟩,
  ⟨aG "steps_from", "steps_from", "steps_from", (top 35)⟩,
  ⟨aG "reached", "reached", "reached", (top 36)⟩,
  ⟨aG "_law_reached", "_law_reached", "_law_reached", (top 51)⟩,
  ⟨aG "_law_odd_set", "_law_odd_set", "_law_odd_set", (top 52)⟩,
  ⟨aG "law", "law", "law", (top 55)⟩,
  ⟨aM "BadName" "__init__", "__init__", "BadName.__init__", (inC 3 0)⟩,
  ⟨aM "DuplicateName" "__init__", "__init__", "DuplicateName.__init__", (inC 4 0)⟩,
  ⟨aM "UnknownName" "__init__", "__init__", "UnknownName.__init__", (inC 5 0)⟩,
  ⟨aM "BadCount" "__init__", "__init__", "BadCount.__init__", (inC 6 0)⟩,
  ⟨aM "BadSet" "__init__", "__init__", "BadSet.__init__", (inC 7 0)⟩,
  ⟨aM "BadRow" "__init__", "__init__", "BadRow.__init__", (inC 8 0)⟩,
  ⟨aM "BadText" "__init__", "__init__", "BadText.__init__", (inC 9 0)⟩,
  ⟨aM "BadNumber" "__init__", "__init__", "BadNumber.__init__", (inC 10 0)⟩]
def fs : List (PySem.W.Frag → Bool) := [fGlo "_law_start",
  fGlo "_law_take",
  fGlo "_law_shuffled",
  fGlo "_law_unknowns",
  fGlo "_law_part",
  fGlo "_law_row",
  fGlo "_law_model",
  fGlo "valid_name",
  fGlo "check_unknowns",
  fGlo "is_part",
  fGlo "is_row",
  fGlo "_law_shape",
  fGlo "_law_sets",
  fGlo "_law_due",
  fGlo "is_set",
  fGlo "check_readings",
  fGlo "set_rank",
  fGlo "all_sets",
  fGlo "parted",
  fGlo "can_hide",
  fGlo "hidden_sets",
  fGlo "_law_told",
  fGlo "is_integer",
  fGlo "is_step",
  fGlo "next_step",
  fGlo "steps_from",
  fGlo "reached",
  fGlo "_law_reached",
  fGlo "_law_odd_set",
  fGlo "law",
  fCls "Shape",
  fProp "Shape" "rows",
  fProp "Shape" "unknowns",
  fMkr "Shape",
  fGlo "Shape",
  fNoat "Shape" "lines",
  fNoat "Shape" "names",
  fGlo "BadName",
  fErr "BadName" "name",
  fGlo "DuplicateName",
  fErr "DuplicateName" "name",
  fGlo "UnknownName",
  fErr "UnknownName" "name",
  fGlo "BadCount",
  fErr "BadCount" "count",
  fGlo "BadSet",
  fErr "BadSet" "value",
  fGlo "BadRow",
  fErr "BadRow" "value",
  fGlo "BadText",
  fErr "BadText" "text",
  fGlo "BadNumber",
  fErr "BadNumber" "value",
  fGlo "FactorError",
  fBase "FactorError",
  fExs exs,
  fStr "LETTERS" "abcdefghijklmnopqrstuvwxyz",
  fStr "DIGITS" "0123456789",
  fInt "LONGEST" 6,
  fInt "MOST" 8] ++ bltNames.map fFree
abbrev R : PySem.W.OpenRow := PySem.W.OpenLaw.row PySem.Challenge.rw_anyfactors_k27_hidden_sets
abbrev hk : PySem.W.Hook := hookX 5 fs dl
def ob (s : PySem.W.SharedT) : AlX := obsXG 5 fs dl (HandSHeadRun.getT s)
theorem ob_eq (s : PySem.W.SharedT) : ob s = hk.obs s.abs := obsXG_eq (HandSHeadRun.getT_eq s)
abbrev loose0 : List PySem.Str := ["_wall", "FactorError", "BadName", "DuplicateName", "UnknownName", "BadCount", "BadSet", "BadRow", "BadText", "BadNumber", "LETTERS", "DIGITS"]
abbrev loose1 : List PySem.Str := ["LONGEST", "valid_name", "is_part", "is_integer", "is_index", "set_rank", "MOST", "all_sets", "is_set", "check_unknowns", "is_row", "set_text"]
abbrev loose2 : List PySem.Str := ["row_text", "read_set", "read_row", "Shape", "check_readings", "is_step", "next_step", "steps_from", "reached", "parted", "can_hide", "hidden_sets"]
abbrev loose3 : List PySem.Str := ["_law_start", "_law_take", "_law_shuffled", "_law_unknowns", "_law_part", "_law_row", "_law_model", "_law_shape", "_law_sets", "_law_reached", "_law_odd_set", "_law_due"]
abbrev loose4 : List PySem.Str := ["_law_told"]
abbrev loose : List PySem.Str := loose0 ++ loose1 ++ loose2 ++ loose3 ++ loose4
end K27

set_option Elab.async false
set_option linter.all false
set_option maxRecDepth 100000
set_option maxHeartbeats 0
namespace K27
open PySem PySem.Spec PyProof.Rows L2 DL
theorem run (w : World) : HandSHeadRun.RunEq R (PySem.W.view R.prog [55]) hk ob 30000 loose w := by
  intro os
  kernel_rfl
end K27

set_option Elab.async false
set_option linter.all false
set_option maxRecDepth 100000
set_option maxHeartbeats 0
namespace K27
open PySem PySem.Spec PyProof.Rows L2 DL
section
variable {P : Program} {w : World} {K : PySem.W.Frag} {h : Heap} {mg : PySem.Str → Option Value}
theorem facts {f : Addr} (X : K.In h) (Gn : h.Ns mainGlobals mg) (hfa : mg ("law" : PySem.Str) = some (.ref f)) (c : SaysX fs dl K) :
    ∃ (fd : FuncData), (∀ (s : Shared) (v : Value), BindsTo s fd ⟨[v], []⟩ [("_law_script", v)]) ∧ ∀ base : Heap, K.In base → base.Ns mainGlobals mg → FnOk P w K mg base (L2.CX P w) 71 f fd ["_law_script"] (spG K (fldK K) LH.lawHS) := by
  obtain ⟨fd0, F0⟩ := c.def_ 0 (d := ⟨aG "_law_start", "_law_start", "_law_start", (top 42)⟩) rfl
  obtain ⟨fd1, F1⟩ := c.def_ 1 (d := ⟨aG "_law_take", "_law_take", "_law_take", (top 43)⟩) rfl
  obtain ⟨fd2, F2⟩ := c.def_ 2 (d := ⟨aG "_law_shuffled", "_law_shuffled", "_law_shuffled", (top 44)⟩) rfl
  obtain ⟨fd3, F3⟩ := c.def_ 3 (d := ⟨aG "_law_unknowns", "_law_unknowns", "_law_unknowns", (top 45)⟩) rfl
  obtain ⟨fd4, F4⟩ := c.def_ 4 (d := ⟨aG "_law_part", "_law_part", "_law_part", (top 46)⟩) rfl
  obtain ⟨fd5, F5⟩ := c.def_ 5 (d := ⟨aG "_law_row", "_law_row", "_law_row", (top 47)⟩) rfl
  obtain ⟨fd6, F6⟩ := c.def_ 6 (d := ⟨aG "_law_model", "_law_model", "_law_model", (top 48)⟩) rfl
  obtain ⟨fd7, F7⟩ := c.def_ 7 (d := ⟨aG "valid_name", "valid_name", "valid_name", (top 15)⟩) rfl
  obtain ⟨fd8, F8⟩ := c.def_ 8 (d := ⟨aG "check_unknowns", "check_unknowns", "check_unknowns", (top 24)⟩) rfl
  obtain ⟨fd9, F9⟩ := c.def_ 9 (d := ⟨aG "is_part", "is_part", "is_part", (top 16)⟩) rfl
  obtain ⟨fd10, F10⟩ := c.def_ 10 (d := ⟨aG "is_row", "is_row", "is_row", (top 25)⟩) rfl
  obtain ⟨fd11, F11⟩ := c.def_ 11 (d := ⟨aM "Shape" "__init__", "__init__", "Shape.__init__", (inC 30 0)⟩) rfl
  obtain ⟨fd12, F12⟩ := c.def_ 12 (d := ⟨aG "_law_shape", "_law_shape", "_law_shape", (top 49)⟩) rfl
  obtain ⟨fd13, F13⟩ := c.def_ 13 (d := ⟨aG "_law_sets", "_law_sets", "_law_sets", (top 50)⟩) rfl
  obtain ⟨fd14, F14⟩ := c.def_ 14 (d := ⟨aG "_law_due", "_law_due", "_law_due", (top 53)⟩) rfl
  obtain ⟨fd15, F15⟩ := c.def_ 15 (d := ⟨aG "is_set", "is_set", "is_set", (top 23)⟩) rfl
  obtain ⟨fd16, F16⟩ := c.def_ 16 (d := ⟨aP "Shape" "unknowns", "unknowns", "Shape.unknowns", (inC 30 2)⟩) rfl
  obtain ⟨fd17, F17⟩ := c.def_ 17 (d := ⟨aG "check_readings", "check_readings", "check_readings", (top 32)⟩) rfl
  obtain ⟨fd18, F18⟩ := c.def_ 18 (d := ⟨aG "set_rank", "set_rank", "set_rank", (top 19)⟩) rfl
  obtain ⟨fd19, F19⟩ := c.def_ 19 (d := ⟨aG "all_sets", "all_sets", "all_sets", (top 22)⟩) rfl
  obtain ⟨fd20, F20⟩ := c.def_ 20 (d := ⟨aG "parted", "parted", "parted", (top 38)⟩) rfl
  obtain ⟨fd21, F21⟩ := c.def_ 21 (d := ⟨aP "Shape" "rows", "rows", "Shape.rows", (inC 30 3)⟩) rfl
  obtain ⟨fd22, F22⟩ := c.def_ 22 (d := ⟨aG "can_hide", "can_hide", "can_hide", (top 39)⟩) rfl
  obtain ⟨fd23, F23⟩ := c.def_ 23 (d := ⟨aG "hidden_sets", "hidden_sets", "hidden_sets", (top 40)⟩) rfl
  obtain ⟨fd24, F24⟩ := c.def_ 24 (d := ⟨aG "_law_told", "_law_told", "_law_told", (top 54)⟩) rfl
  obtain ⟨fd25, F25⟩ := c.def_ 25 (d := ⟨aG "is_integer", "is_integer", "is_integer", (top 17)⟩) rfl
  obtain ⟨fd26, F26⟩ := c.def_ 26 (d := ⟨aG "is_step", "is_step", "is_step", (top 33)⟩) rfl
  obtain ⟨fd27, F27⟩ := c.def_ 27 (d := ⟨aG "next_step", "next_step", "next_step", (top 34)⟩) rfl
  obtain ⟨fd28, F28⟩ := c.def_ 28 (d := ⟨aG "steps_from", "steps_from", "steps_from", (top 35)⟩) rfl
  obtain ⟨fd29, F29⟩ := c.def_ 29 (d := ⟨aG "reached", "reached", "reached", (top 36)⟩) rfl
  obtain ⟨fd30, F30⟩ := c.def_ 30 (d := ⟨aG "_law_reached", "_law_reached", "_law_reached", (top 51)⟩) rfl
  obtain ⟨fd31, F31⟩ := c.def_ 31 (d := ⟨aG "_law_odd_set", "_law_odd_set", "_law_odd_set", (top 52)⟩) rfl
  obtain ⟨fd32, F32⟩ := c.def_ 32 (d := ⟨aG "law", "law", "law", (top 55)⟩) rfl
  obtain ⟨fd33, F33⟩ := c.def_ 33 (d := ⟨aM "BadName" "__init__", "__init__", "BadName.__init__", (inC 3 0)⟩) rfl
  obtain ⟨fd34, F34⟩ := c.def_ 34 (d := ⟨aM "DuplicateName" "__init__", "__init__", "DuplicateName.__init__", (inC 4 0)⟩) rfl
  obtain ⟨fd35, F35⟩ := c.def_ 35 (d := ⟨aM "UnknownName" "__init__", "__init__", "UnknownName.__init__", (inC 5 0)⟩) rfl
  obtain ⟨fd36, F36⟩ := c.def_ 36 (d := ⟨aM "BadCount" "__init__", "__init__", "BadCount.__init__", (inC 6 0)⟩) rfl
  obtain ⟨fd37, F37⟩ := c.def_ 37 (d := ⟨aM "BadSet" "__init__", "__init__", "BadSet.__init__", (inC 7 0)⟩) rfl
  obtain ⟨fd38, F38⟩ := c.def_ 38 (d := ⟨aM "BadRow" "__init__", "__init__", "BadRow.__init__", (inC 8 0)⟩) rfl
  obtain ⟨fd39, F39⟩ := c.def_ 39 (d := ⟨aM "BadText" "__init__", "__init__", "BadText.__init__", (inC 9 0)⟩) rfl
  obtain ⟨fd40, F40⟩ := c.def_ 40 (d := ⟨aM "BadNumber" "__init__", "__init__", "BadNumber.__init__", (inC 10 0)⟩) rfl
  have q0 := He.glo_ok X Gn (c.fact 0 (f := fGlo "_law_start") rfl)
  have q1 := He.glo_ok X Gn (c.fact 1 (f := fGlo "_law_take") rfl)
  have q2 := He.glo_ok X Gn (c.fact 2 (f := fGlo "_law_shuffled") rfl)
  have q3 := He.glo_ok X Gn (c.fact 3 (f := fGlo "_law_unknowns") rfl)
  have q4 := He.glo_ok X Gn (c.fact 4 (f := fGlo "_law_part") rfl)
  have q5 := He.glo_ok X Gn (c.fact 5 (f := fGlo "_law_row") rfl)
  have q6 := He.glo_ok X Gn (c.fact 6 (f := fGlo "_law_model") rfl)
  have q7 := He.glo_ok X Gn (c.fact 7 (f := fGlo "valid_name") rfl)
  have q8 := He.glo_ok X Gn (c.fact 8 (f := fGlo "check_unknowns") rfl)
  have q9 := He.glo_ok X Gn (c.fact 9 (f := fGlo "is_part") rfl)
  have q10 := He.glo_ok X Gn (c.fact 10 (f := fGlo "is_row") rfl)
  have q12 := He.glo_ok X Gn (c.fact 11 (f := fGlo "_law_shape") rfl)
  have q13 := He.glo_ok X Gn (c.fact 12 (f := fGlo "_law_sets") rfl)
  have q14 := He.glo_ok X Gn (c.fact 13 (f := fGlo "_law_due") rfl)
  have q15 := He.glo_ok X Gn (c.fact 14 (f := fGlo "is_set") rfl)
  have q17 := He.glo_ok X Gn (c.fact 15 (f := fGlo "check_readings") rfl)
  have q18 := He.glo_ok X Gn (c.fact 16 (f := fGlo "set_rank") rfl)
  have q19 := He.glo_ok X Gn (c.fact 17 (f := fGlo "all_sets") rfl)
  have q20 := He.glo_ok X Gn (c.fact 18 (f := fGlo "parted") rfl)
  have q22 := He.glo_ok X Gn (c.fact 19 (f := fGlo "can_hide") rfl)
  have q23 := He.glo_ok X Gn (c.fact 20 (f := fGlo "hidden_sets") rfl)
  have q24 := He.glo_ok X Gn (c.fact 21 (f := fGlo "_law_told") rfl)
  have q25 := He.glo_ok X Gn (c.fact 22 (f := fGlo "is_integer") rfl)
  have q26 := He.glo_ok X Gn (c.fact 23 (f := fGlo "is_step") rfl)
  have q27 := He.glo_ok X Gn (c.fact 24 (f := fGlo "next_step") rfl)
  have q28 := He.glo_ok X Gn (c.fact 25 (f := fGlo "steps_from") rfl)
  have q29 := He.glo_ok X Gn (c.fact 26 (f := fGlo "reached") rfl)
  have q30 := He.glo_ok X Gn (c.fact 27 (f := fGlo "_law_reached") rfl)
  have q31 := He.glo_ok X Gn (c.fact 28 (f := fGlo "_law_odd_set") rfl)
  have e := hfa.symm.trans (He.glo_ok X Gn (c.fact 29 (f := fGlo "law") rfl))
  cases e
  have hb : ∀ x ∈ bltNames, mg x = none := blt_free X Gn fun x hx => by
    obtain ⟨i, hi⟩ := List.getElem?_of_mem hx
    refine c.fact (60 + i) (f := fFree x) ?_
    unfold fs
    rw [List.getElem?_append_right (by simp)]
    simp only [List.length_cons, List.length_nil, Nat.zero_add, Nat.reduceAdd, Nat.add_sub_cancel_left, List.getElem?_map, hi]
    rfl
  have b0 : Binds K fd0 ["_law_script"] [] := F0.bindsN fun _ _ _ _ _ _ us hl => match us, hl with | [_], _ => rfl
  have b1 : Binds K fd1 ["_law_state", "_law_limit"] [] := F1.bindsN fun _ _ _ _ _ _ us hl => match us, hl with | [_, _], _ => rfl
  have b2 : Binds K fd2 ["_law_state", "_law_items"] [] := F2.bindsN fun _ _ _ _ _ _ us hl => match us, hl with | [_, _], _ => rfl
  have b3 : Binds K fd3 ["_law_state", "_law_most"] [] := F3.bindsN fun _ _ _ _ _ _ us hl => match us, hl with | [_, _], _ => rfl
  have b4 : Binds K fd4 ["_law_state", "_law_names", "_law_chance"] [] := F4.bindsN fun _ _ _ _ _ _ us hl => match us, hl with | [_, _, _], _ => rfl
  have b5 : Binds K fd5 ["_law_state", "_law_names"] [] := F5.bindsN fun _ _ _ _ _ _ us hl => match us, hl with | [_, _], _ => rfl
  have b6 : Binds K fd6 ["_law_state", "_law_names", "_law_most"] [] := F6.bindsN fun _ _ _ _ _ _ us hl => match us, hl with | [_, _, _], _ => rfl
  have b7 : Binds K fd7 ["text"] [] := F7.bindsN fun _ _ _ _ _ _ us hl => match us, hl with | [_], _ => rfl
  have b8 : Binds K fd8 ["names"] [] := F8.bindsN fun _ _ _ _ _ _ us hl => match us, hl with | [_], _ => rfl
  have b9 : Binds K fd9 ["names", "value"] [] := F9.bindsN fun _ _ _ _ _ _ us hl => match us, hl with | [_, _], _ => rfl
  have b10 : Binds K fd10 ["names", "value"] [] := F10.bindsN fun _ _ _ _ _ _ us hl => match us, hl with | [_, _], _ => rfl
  have b11 : Binds K fd11 ["self", "unknowns", "rows"] [] := F11.bindsN fun _ _ _ _ _ _ us hl => match us, hl with | [_, _, _], _ => rfl
  have b12 : Binds K fd12 ["_law_state", "_law_model_here"] [] := F12.bindsN fun _ _ _ _ _ _ us hl => match us, hl with | [_, _], _ => rfl
  have b13 : Binds K fd13 ["_law_names"] [] := F13.bindsN fun _ _ _ _ _ _ us hl => match us, hl with | [_], _ => rfl
  have b14 : Binds K fd14 ["_law_model_here", "_law_known"] [] := F14.bindsN fun _ _ _ _ _ _ us hl => match us, hl with | [_, _], _ => rfl
  have b15 : Binds K fd15 ["names", "value"] [] := F15.bindsN fun _ _ _ _ _ _ us hl => match us, hl with | [_, _], _ => rfl
  have b16 : Binds K fd16 ["self"] [] := F16.bindsN fun _ _ _ _ _ _ us hl => match us, hl with | [_], _ => rfl
  have b17 : Binds K fd17 ["shape", "readings"] [] := F17.bindsN fun _ _ _ _ _ _ us hl => match us, hl with | [_, _], _ => rfl
  have b18 : Binds K fd18 ["names"] [] := F18.bindsN fun _ _ _ _ _ _ us hl => match us, hl with | [_], _ => rfl
  have b19 : Binds K fd19 ["names"] [] := F19.bindsN fun _ _ _ _ _ _ us hl => match us, hl with | [_], _ => rfl
  have b20 : Binds K fd20 ["names", "chosen"] [] := F20.bindsN fun _ _ _ _ _ _ us hl => match us, hl with | [_, _], _ => rfl
  have b21 : Binds K fd21 ["self"] [] := F21.bindsN fun _ _ _ _ _ _ us hl => match us, hl with | [_], _ => rfl
  have b22 : Binds K fd22 ["shape", "chosen"] [] := F22.bindsN fun _ _ _ _ _ _ us hl => match us, hl with | [_, _], _ => rfl
  have b23 : Binds K fd23 ["shape", "readings"] [] := F23.bindsN fun _ _ _ _ _ _ us hl => match us, hl with | [_, _], _ => rfl
  have kw23 : ∀ (s : Shared) (ws : List Value), ws.length = ["readings", "shape"].length → BindsTo s fd23 ⟨[], (["readings", "shape"] : List PySem.Str).zip ws⟩ ((["shape", "readings"] : List PySem.Str).zip ([1, 0].map fun i => ws.getD i .none)) := by
    intro s ws hl
    obtain ⟨oc, od, kV, doc, pm, an, cdv, ct, osl, rfl, lk, hcd⟩ := (fun_of (st := (top 40)) F23).ex
    match ws, hl with
    | [_, _], _ => exact .of_eq rfl
  have b24 : Binds K fd24 ["_law_way", "_law_desk", "_law_known"] [] := F24.bindsN fun _ _ _ _ _ _ us hl => match us, hl with | [_, _, _], _ => rfl
  have b25 : Binds K fd25 ["value"] [] := F25.bindsN fun _ _ _ _ _ _ us hl => match us, hl with | [_], _ => rfl
  have b26 : Binds K fd26 ["shape", "standing", "value"] [] := F26.bindsN fun _ _ _ _ _ _ us hl => match us, hl with | [_, _, _], _ => rfl
  have b27 : Binds K fd27 ["shape", "standing"] [] := F27.bindsN fun _ _ _ _ _ _ us hl => match us, hl with | [_, _], _ => rfl
  have b28 : Binds K fd28 ["shape", "readings"] [] := F28.bindsN fun _ _ _ _ _ _ us hl => match us, hl with | [_, _], _ => rfl
  have b29 : Binds K fd29 ["shape", "readings"] [] := F29.bindsN fun _ _ _ _ _ _ us hl => match us, hl with | [_, _], _ => rfl
  have b30 : Binds K fd30 ["_law_model_here", "_law_readings1"] [] := F30.bindsN fun _ _ _ _ _ _ us hl => match us, hl with | [_, _], _ => rfl
  have b31 : Binds K fd31 ["_law_state", "_law_names"] [] := F31.bindsN fun _ _ _ _ _ _ us hl => match us, hl with | [_, _], _ => rfl
  have bA := FunD.bindsA (ps := ["_law_script"]) F32 fun _ _ _ _ _ _ us hl => match us, hl with | [_], _ => rfl
  have b33 : Binds K fd33 ["self", "name"] [] := F33.bindsN fun _ _ _ _ _ _ us hl => match us, hl with | [_, _], _ => rfl
  have b34 : Binds K fd34 ["self", "name"] [] := F34.bindsN fun _ _ _ _ _ _ us hl => match us, hl with | [_, _], _ => rfl
  have b35 : Binds K fd35 ["self", "name"] [] := F35.bindsN fun _ _ _ _ _ _ us hl => match us, hl with | [_, _], _ => rfl
  have b36 : Binds K fd36 ["self", "count"] [] := F36.bindsN fun _ _ _ _ _ _ us hl => match us, hl with | [_, _], _ => rfl
  have b37 : Binds K fd37 ["self", "value"] [] := F37.bindsN fun _ _ _ _ _ _ us hl => match us, hl with | [_, _], _ => rfl
  have b38 : Binds K fd38 ["self", "value"] [] := F38.bindsN fun _ _ _ _ _ _ us hl => match us, hl with | [_, _], _ => rfl
  have b39 : Binds K fd39 ["self", "text"] [] := F39.bindsN fun _ _ _ _ _ _ us hl => match us, hl with | [_, _], _ => rfl
  have b40 : Binds K fd40 ["self", "value"] [] := F40.bindsN fun _ _ _ _ _ _ us hl => match us, hl with | [_, _], _ => rfl
  refine ⟨fd32, fun s v => bA s [v] rfl, fun base _ _ => ?_⟩
  have e0 : ErrT P w K mg base (fldK K) (errName 0) 0 := err_ok (st := (inC 3 0)) X Gn (c.fact 37 (f := fGlo "BadName") rfl) (c.fact 38 (f := fErr "BadName" "name") rfl) (c.fact 53 (f := fGlo "FactorError") rfl) (c.fact 54 (f := fBase "FactorError") rfl) F33 sx_0 cx_0 (by decide +kernel) (by decide +kernel) b33
  have e1 : ErrT P w K mg base (fldK K) (errName 1) 1 := err_ok (st := (inC 4 0)) X Gn (c.fact 39 (f := fGlo "DuplicateName") rfl) (c.fact 40 (f := fErr "DuplicateName" "name") rfl) (c.fact 53 (f := fGlo "FactorError") rfl) (c.fact 54 (f := fBase "FactorError") rfl) F34 sx_1 cx_1 (by decide +kernel) (by decide +kernel) b34
  have e2 : ErrT P w K mg base (fldK K) (errName 2) 2 := err_ok (st := (inC 5 0)) X Gn (c.fact 41 (f := fGlo "UnknownName") rfl) (c.fact 42 (f := fErr "UnknownName" "name") rfl) (c.fact 53 (f := fGlo "FactorError") rfl) (c.fact 54 (f := fBase "FactorError") rfl) F35 sx_2 cx_2 (by decide +kernel) (by decide +kernel) b35
  have e3 : ErrT P w K mg base (fldK K) (errName 3) 3 := err_ok (st := (inC 6 0)) X Gn (c.fact 43 (f := fGlo "BadCount") rfl) (c.fact 44 (f := fErr "BadCount" "count") rfl) (c.fact 53 (f := fGlo "FactorError") rfl) (c.fact 54 (f := fBase "FactorError") rfl) F36 sx_3 cx_3 (by decide +kernel) (by decide +kernel) b36
  have e4 : ErrT P w K mg base (fldK K) (errName 4) 4 := err_ok (st := (inC 7 0)) X Gn (c.fact 45 (f := fGlo "BadSet") rfl) (c.fact 46 (f := fErr "BadSet" "value") rfl) (c.fact 53 (f := fGlo "FactorError") rfl) (c.fact 54 (f := fBase "FactorError") rfl) F37 sx_4 cx_4 (by decide +kernel) (by decide +kernel) b37
  have e5 : ErrT P w K mg base (fldK K) (errName 5) 5 := err_ok (st := (inC 8 0)) X Gn (c.fact 47 (f := fGlo "BadRow") rfl) (c.fact 48 (f := fErr "BadRow" "value") rfl) (c.fact 53 (f := fGlo "FactorError") rfl) (c.fact 54 (f := fBase "FactorError") rfl) F38 sx_5 cx_5 (by decide +kernel) (by decide +kernel) b38
  have e6 : ErrT P w K mg base (fldK K) (errName 6) 6 := err_ok (st := (inC 9 0)) X Gn (c.fact 49 (f := fGlo "BadText") rfl) (c.fact 50 (f := fErr "BadText" "text") rfl) (c.fact 53 (f := fGlo "FactorError") rfl) (c.fact 54 (f := fBase "FactorError") rfl) F39 sx_6 cx_6 (by decide +kernel) (by decide +kernel) b39
  have e7 : ErrT P w K mg base (fldK K) (errName 7) 7 := err_ok (st := (inC 10 0)) X Gn (c.fact 51 (f := fGlo "BadNumber") rfl) (c.fact 52 (f := fErr "BadNumber" "value") rfl) (c.fact 53 (f := fGlo "FactorError") rfl) (c.fact 54 (f := fBase "FactorError") rfl) F40 sx_7 cx_7 (by decide +kernel) (by decide +kernel) b40
  have hE : ∀ e ∈ exs, ErrT P w K mg base (fldK K) (errName e) e := (List.forall_mem_cons.mpr ⟨e0, (List.forall_mem_cons.mpr ⟨e1, (List.forall_mem_cons.mpr ⟨e2, (List.forall_mem_cons.mpr ⟨e3, (List.forall_mem_cons.mpr ⟨e4, (List.forall_mem_cons.mpr ⟨e5, (List.forall_mem_cons.mpr ⟨e6, (List.forall_mem_cons.mpr ⟨e7, (fun _ h => by cases h)⟩)⟩)⟩)⟩)⟩)⟩)⟩)⟩)
  have hXm : ∀ e e2, e ∈ exs → e2 ∈ exs → PySem.W.exmOne K (.ref (fldK K e).1) (.ref (fldK K e2).1) = some (e == e2) := fun e e2 h1 h2 => of_decide_eq_true (List.all_eq_true.mp (List.all_eq_true.mp (c.fact 55 (f := fExs exs) rfl) e h1) e2 h2)
  have hgl : ∀ x d, gls.lookup x = some d → ∃ v u, mg x = some u ∧ RelV v u ∧ ∀ F, RelD K F v d := by
    intro x d h
    unfold gls at h
    by_cases z0 : x = "LETTERS"
    · subst z0
      cases h
      exact gl_str X Gn (c.fact 56 (f := fStr "LETTERS" "abcdefghijklmnopqrstuvwxyz") rfl) (by decide +kernel) (by decide +kernel)
    by_cases z1 : x = "DIGITS"
    · subst z1
      cases h
      exact gl_str X Gn (c.fact 57 (f := fStr "DIGITS" "0123456789") rfl) (by decide +kernel) (by decide +kernel)
    by_cases z2 : x = "LONGEST"
    · subst z2
      cases h
      exact gl_int X Gn (c.fact 58 (f := fInt "LONGEST" 6) rfl)
    by_cases z3 : x = "MOST"
    · subst z3
      cases h
      exact gl_int X Gn (c.fact 59 (f := fInt "MOST" 8) rfl)
    exfalso
    simp only [List.lookup, beq_eq_false_iff_ne.mpr z0, beq_eq_false_iff_ne.mpr z1, beq_eq_false_iff_ne.mpr z2, beq_eq_false_iff_ne.mpr z3] at h
    cases h
  have t0 : Tab P w K mg base (fldK K) 2 ⟨[], [], gls, [], exs⟩ G := ⟨fun f x h => (by simp at h), hb, hgl, fun i x h => (by simp at h), fun e he => ⟨by decide, hE e he⟩, hXm, fun _ => rfl⟩
  have T0 : Tab P w K mg base (fldK K) 2 c0 G := ((((t0).mt (i := 0) (x := ⟨3, 0, "names"⟩) (g := .pure fun _ _ _ => False) (fun h => absurd h (by decide)) (mt_fld (c.fact 30 (f := fCls "Shape") rfl) (c.fact 36 (f := fNoat "Shape" "names") rfl)))).mt (i := 1) (x := ⟨3, 0, "lines"⟩) (g := .pure fun _ _ _ => False) (fun h => absurd h (by decide)) (mt_fld (c.fact 30 (f := fCls "Shape") rfl) (c.fact 35 (f := fNoat "Shape" "lines") rfl)))
  have k0 : FnOk P w K mg base (L2.CX P w) 4 _ fd0 ["_law_script"] (spG K (fldK K) LX.startS) := fn_gen (fun_of (st := (top 42)) F0) sc__law_start (T0.nm ["_law_script", "_law_cell"]) ck__law_start (fun ds m Q E ⟨_, hh, _⟩ => by rw [hh]; rfl) LX.d_start
  have T1 : Tab P w K mg base (fldK K) 4 c1 G := (T0.mono (Nat.le_add_right 2 2)).fn rfl (fnE_pos (f := .gen LX.startS) q0 F0.kp k0 (Nat.le_refl _) b0)
  have k1 : FnOk P w K mg base (L2.CX P w) 6 _ fd1 ["_law_state", "_law_limit"] (spG K (fldK K) LX.takeS) := fn_gen (fun_of (st := (top 43)) F1) sc__law_take (T1.nm ["_law_state", "_law_limit", "_law_cells", "_law_at", "_law_cell", "_law_number"]) ck__law_take (fun ds m Q E ⟨_, _, _, _, hh, _⟩ => by rw [hh]; rfl) LX.d_take
  have T2 : Tab P w K mg base (fldK K) 6 c2 G := (T1.mono (Nat.le_add_right 4 2)).fn rfl (fnE_pos (f := .gen LX.takeS) q1 F1.kp k1 (Nat.le_refl _) b1)
  have k2 : FnOk P w K mg base (L2.CX P w) 8 _ fd2 ["_law_state", "_law_items"] (spG K (fldK K) LX.shuffledS) := fn_gen (fun_of (st := (top 44)) F2) sc__law_shuffled (T2.nm ["_law_state", "_law_items", "_law_left", "_law_told_here", "_law_k"]) ck__law_shuffled (fun ds m Q E ⟨_, _, _, _, _, hh, _⟩ => by rw [hh]; rfl) (LX.d_shuffled gGL)
  have T3 : Tab P w K mg base (fldK K) 8 c3 G := (T2.mono (Nat.le_add_right 6 2)).fn rfl (fnE_pos (f := .gen LX.shuffledS) q2 F2.kp k2 (Nat.le_refl _) b2)
  have k3 : FnOk P w K mg base (L2.CX P w) 10 _ fd3 ["_law_state", "_law_most"] (spG K (fldK K) LX.unknownsS) := fn_gen (fun_of (st := (top 45)) F3) sc__law_unknowns (T3.nm ["_law_state", "_law_most", "_law_lists", "_law_words"]) ck__law_unknowns (fun ds m Q E ⟨_, _, _, _, hh, _⟩ => by rw [hh]; rfl) (LX.d_unknowns gGL1)
  have T4 : Tab P w K mg base (fldK K) 10 c4 G := (T3.mono (Nat.le_add_right 8 2)).fn rfl (fnE_pos (f := .gen LX.unknownsS) q3 F3.kp k3 (Nat.le_refl _) b3)
  have k4 : FnOk P w K mg base (L2.CX P w) 12 _ fd4 ["_law_state", "_law_names", "_law_chance"] (spG K (fldK K) LX.partS) := fn_gen (fun_of (st := (top 46)) F4) sc__law_part (T4.nm ["_law_state", "_law_names", "_law_chance", "_law_name"]) ck__law_part (fun ds m Q E ⟨_, _, _, _, _, _, hh, _⟩ => by rw [hh]; rfl) (LX.d_part gGL1)
  have T5 : Tab P w K mg base (fldK K) 12 c5 G := (T4.mono (Nat.le_add_right 10 2)).fn rfl (fnE_pos (f := .gen LX.partS) q4 F4.kp k4 (Nat.le_refl _) b4)
  have k5 : FnOk P w K mg base (L2.CX P w) 14 _ fd5 ["_law_state", "_law_names"] (spG K (fldK K) LX.rowS) := fn_gen (fun_of (st := (top 47)) F5) sc__law_row (T5.nm ["_law_state", "_law_names", "_law_chance", "_law_sure", "_law_left", "_law_name"]) ck__law_row (fun ds m Q E ⟨_, _, _, _, hh, _⟩ => by rw [hh]; rfl) (LX.d_row gGL2)
  have T6 : Tab P w K mg base (fldK K) 14 c6 G := (T5.mono (Nat.le_add_right 12 2)).fn rfl (fnE_pos (f := .gen LX.rowS) q5 F5.kp k5 (Nat.le_refl _) b5)
  have k6 : FnOk P w K mg base (L2.CX P w) 16 _ fd6 ["_law_state", "_law_names", "_law_most"] (spG K (fldK K) LX.modelS) := fn_gen (fun_of (st := (top 48)) F6) sc__law_model (T6.nm ["_law_state", "_law_names", "_law_most", "_law_k"]) ck__law_model (fun ds m Q E ⟨_, _, _, _, _, hh, _⟩ => by rw [hh]; rfl) (LX.d_model gGL3)
  have T7 : Tab P w K mg base (fldK K) 16 c7 G := (T6.mono (Nat.le_add_right 14 2)).fn rfl (fnE_pos (f := .gen LX.modelS) q6 F6.kp k6 (Nat.le_refl _) b6)
  have k7 : FnOk P w K mg base (L2.CX P w) 18 _ fd7 ["text"] (spP K (fldK K) PX.validNameS) := fn_pure (fun_of (st := (top 15)) F7) sc_valid_name (T7.nm ["text", "char"]) ck_valid_name (fun ds Q E ⟨_, hh, _⟩ => by rw [hh]; rfl) PX.d_valid_name
  have T8 : Tab P w K mg base (fldK K) 18 c8 G := (T7.mono (Nat.le_add_right 16 2)).fn rfl (fnE_pos (f := .pure PX.validNameS) q7 F7.kp k7 (Nat.le_refl _) b7)
  have k8 : FnOk P w K mg base (L2.CX P w) 20 _ fd8 ["names"] (spP K (fldK K) PX.checkUnknownsS) := fn_pure (fun_of (st := (top 24)) F8) sc_check_unknowns (T8.nm ["names", "earlier", "name"]) ck_check_unknowns (fun ds Q E ⟨_, hh, _⟩ => by rw [hh]; rfl) (PX.d_check_unknowns rfl)
  have T9 : Tab P w K mg base (fldK K) 20 c9 G := (T8.mono (Nat.le_add_right 18 2)).fn rfl (fnE_pos (f := .pure PX.checkUnknownsS) q8 F8.kp k8 (Nat.le_refl _) b8)
  have k9 : FnOk P w K mg base (L2.CX P w) 22 _ fd9 ["names", "value"] (spP K (fldK K) PX.isPartS) := fn_pure (fun_of (st := (top 16)) F9) sc_is_part (T9.nm ["names", "value", "name"]) ck_is_part (fun ds Q E ⟨_, _, hh, _⟩ => by rw [hh]; rfl) PX.d_is_part
  have T10 : Tab P w K mg base (fldK K) 22 c10 G := (T9.mono (Nat.le_add_right 20 2)).fn rfl (fnE_pos (f := .pure PX.isPartS) q9 F9.kp k9 (Nat.le_refl _) b9)
  have k10 : FnOk P w K mg base (L2.CX P w) 24 _ fd10 ["names", "value"] (spP K (fldK K) PX.isRowS) := fn_pure (fun_of (st := (top 25)) F10) sc_is_row (T10.nm ["names", "value", "name"]) ck_is_row (fun ds Q E ⟨_, _, hh, _⟩ => by rw [hh]; rfl) (PX.d_is_row rfl)
  have T11 : Tab P w K mg base (fldK K) 24 c11 G := (T10.mono (Nat.le_add_right 22 2)).fn rfl (fnE_pos (f := .pure PX.isRowS) q10 F10.kp k10 (Nat.le_refl _) b10)
  have k11 : FnOk P w K mg base (L2.CX P w) 26 _ fd11 ["self", "unknowns", "rows"] (spG K (fldK K) PX.initS) := fn_gen (fun_of (st := (inC 30 0)) F11) sc_Shape_u__init_u_ (T11.nm ["self", "unknowns", "rows", "row"]) ck_Shape_u__init_u_ (fun ds m Q E ⟨_, _, _, _, _, hh, _⟩ => by rw [hh]; rfl) (PX.d_init gGP6)
  have T12 : Tab P w K mg base (fldK K) 27 c12 G := ((T11.mono (Nat.le_add_right 24 2)).mono (Nat.le_succ 26)).mt (fun _ => rfl) (mt_mk (cc := 0) X Gn (c.fact 30 (f := fCls "Shape") rfl) (c.fact 33 (f := fMkr "Shape") rfl) (c.fact 34 (f := fGlo "Shape") rfl) k11 (Nat.le_refl _) b11 PX.mk_imp_Shape)
  have k12 : FnOk P w K mg base (L2.CX P w) 29 _ fd12 ["_law_state", "_law_model_here"] (spG K (fldK K) LX.shapeS) := fn_gen (fun_of (st := (top 49)) F12) sc__law_shape (T12.nm ["_law_state", "_law_model_here"]) ck__law_shape (fun ds m Q E ⟨_, _, _, _, hh, _⟩ => by rw [hh]; rfl) (LX.d_shape gGL4)
  have T13 : Tab P w K mg base (fldK K) 29 c13 G := (T12.mono (Nat.le_add_right 27 2)).fn rfl (fnE_pos (f := .gen LX.shapeS) q12 F12.kp k12 (Nat.le_refl _) b12)
  have k13 : FnOk P w K mg base (L2.CX P w) 31 _ fd13 ["_law_names"] (spP K (fldK K) LX.setsS) := fn_pure (fun_of (st := (top 50)) F13) sc__law_sets (T13.nm ["_law_names", "_law_rows", "_law_name", "_law_size", "_law_row_here"]) ck__law_sets (fun ds Q E ⟨_, hh, _⟩ => by rw [hh]; rfl) LX.d_sets
  have T14 : Tab P w K mg base (fldK K) 31 c14 G := (T13.mono (Nat.le_add_right 29 2)).fn rfl (fnE_pos (f := .pure LX.setsS) q13 F13.kp k13 (Nat.le_refl _) b13)
  have k14 : FnOk P w K mg base (L2.CX P w) 33 _ fd14 ["_law_model_here", "_law_known"] (spP K (fldK K) LH.dueHS) := fn_pure (fun_of (st := (top 53)) F14) sc__law_due (T14.nm ["_law_model_here", "_law_known", "_law_unread", "_law_told_here", "_law_chosen", "_law_good", "_law_sure", "_law_perhaps", "_law_inside", "_law_name"]) ck__law_due (fun ds Q E ⟨_, _, hh, _⟩ => by rw [hh]; rfl) (LH.d_dueH gGL5)
  have T15 : Tab P w K mg base (fldK K) 33 c15 G := (T14.mono (Nat.le_add_right 31 2)).fn rfl (fnE_pos (f := .pure LH.dueHS) q14 F14.kp k14 (Nat.le_refl _) b14)
  have k15 : FnOk P w K mg base (L2.CX P w) 35 _ fd15 ["names", "value"] (spP K (fldK K) PX.isSetS) := fn_pure (fun_of (st := (top 23)) F15) sc_is_set (T15.nm ["names", "value"]) ck_is_set (fun ds Q E ⟨_, _, hh, _⟩ => by rw [hh]; rfl) (PX.d_is_set rfl)
  have T16 : Tab P w K mg base (fldK K) 35 c16 G := (T15.mono (Nat.le_add_right 33 2)).fn rfl (fnE_pos (f := .pure PX.isSetS) q15 F15.kp k15 (Nat.le_refl _) b15)
  have k16 : FnOk P w K mg base (L2.CX P w) 37 _ fd16 ["self"] (spP K (fldK K) PX.unknownsS) := fn_pure (fun_of (st := (inC 30 2)) F16) sc_Shape_unknowns (T16.nm ["self"]) ck_Shape_unknowns (fun ds Q E ⟨_, hh, _⟩ => by rw [hh]; rfl) PX.d_unknowns
  have T17 : Tab P w K mg base (fldK K) 38 c17 G := ((T16.mono (Nat.le_add_right 35 2)).mono (Nat.le_succ 37)).mt (fun _ => rfl) (mt_prop (cc := 0) (g := .pure PX.unknownsS) (c.fact 30 (f := fCls "Shape") rfl) (c.fact 32 (f := fProp "Shape" "unknowns") rfl) k16 (Nat.le_refl _) b16)
  have k17 : FnOk P w K mg base (L2.CX P w) 40 _ fd17 ["shape", "readings"] (spP K (fldK K) PX.checkReadingsS) := fn_pure (fun_of (st := (top 32)) F17) sc_check_readings (T17.nm ["shape", "readings"]) ck_check_readings (fun ds Q E ⟨_, _, hh, _⟩ => by rw [hh]; rfl) (PX.d_check_readings gGP)
  have T18 : Tab P w K mg base (fldK K) 40 c18 G := (T17.mono (Nat.le_add_right 38 2)).fn rfl (fnE_pos (f := .pure PX.checkReadingsS) q17 F17.kp k17 (Nat.le_refl _) b17)
  have k18 : FnOk P w K mg base (L2.CX P w) 42 _ fd18 ["names"] (spP K (fldK K) PX.setRankS) := fn_pure (fun_of (st := (top 19)) F18) sc_set_rank (T18.nm ["names"]) ck_set_rank (fun ds Q E ⟨_, hh, _⟩ => by rw [hh]; rfl) PX.d_set_rank
  have T19 : Tab P w K mg base (fldK K) 42 c19 G := (T18.mono (Nat.le_add_right 40 2)).fn rfl (fnE_pos (f := .pure PX.setRankS) q18 F18.kp k18 (Nat.le_refl _) b18)
  have k19 : FnOk P w K mg base (L2.CX P w) 44 _ fd19 ["names"] (spP K (fldK K) PX.allSetsS) := fn_pure (fun_of (st := (top 22)) F19) sc_all_sets (T19.nm ["names", "found", "name", "chosen"]) ck_all_sets (fun ds Q E ⟨_, hh, _⟩ => by rw [hh]; rfl) (PX.d_all_sets gGH1)
  have T20 : Tab P w K mg base (fldK K) 44 c20 G := (T19.mono (Nat.le_add_right 42 2)).fn rfl (fnE_pos (f := .pure PX.allSetsS) q19 F19.kp k19 (Nat.le_refl _) b19)
  have k20 : FnOk P w K mg base (L2.CX P w) 46 _ fd20 ["names", "chosen"] (spP K (fldK K) PX.partedS) := fn_pure (fun_of (st := (top 38)) F20) sc_parted (T20.nm ["names", "chosen", "name"]) ck_parted (fun ds Q E ⟨_, _, hh, _⟩ => by rw [hh]; rfl) PX.d_parted
  have T21 : Tab P w K mg base (fldK K) 46 c21 G := (T20.mono (Nat.le_add_right 44 2)).fn rfl (fnE_pos (f := .pure PX.partedS) q20 F20.kp k20 (Nat.le_refl _) b20)
  have k21 : FnOk P w K mg base (L2.CX P w) 48 _ fd21 ["self"] (spP K (fldK K) PX.rowsS) := fn_pure (fun_of (st := (inC 30 3)) F21) sc_Shape_rows (T21.nm ["self"]) ck_Shape_rows (fun ds Q E ⟨_, hh, _⟩ => by rw [hh]; rfl) PX.d_rows
  have T22 : Tab P w K mg base (fldK K) 49 c22 G := ((T21.mono (Nat.le_add_right 46 2)).mono (Nat.le_succ 48)).mt (fun _ => rfl) (mt_prop (cc := 0) (g := .pure PX.rowsS) (c.fact 30 (f := fCls "Shape") rfl) (c.fact 31 (f := fProp "Shape" "rows") rfl) k21 (Nat.le_refl _) b21)
  have k22 : FnOk P w K mg base (L2.CX P w) 51 _ fd22 ["shape", "chosen"] (spP K (fldK K) PX.canHideS) := fn_pure (fun_of (st := (top 39)) F22) sc_can_hide (T22.nm ["shape", "chosen", "sure", "perhaps"]) ck_can_hide (fun ds Q E ⟨_, _, hh, _⟩ => by rw [hh]; rfl) (PX.d_can_hide gGH2)
  have T23 : Tab P w K mg base (fldK K) 51 c23 G := (T22.mono (Nat.le_add_right 49 2)).fn rfl (fnE_pos (f := .pure PX.canHideS) q22 F22.kp k22 (Nat.le_refl _) b22)
  have k23 : FnOk P w K mg base (L2.CX P w) 53 _ fd23 ["shape", "readings"] (spG K (fldK K) PX.hiddenS) := fn_gen (fun_of (st := (top 40)) F23) sc_hidden_sets (T23.nm ["shape", "readings", "unread", "chosen", "name"]) ck_hidden_sets (fun ds m Q E ⟨_, _, hh, _⟩ => by rw [hh]; rfl) (PX.d_hidden_sets gGH3)
  have T24 : Tab P w K mg base (fldK K) 53 c24 G := (T23.mono (Nat.le_add_right 51 2)).fn rfl (fnE_pos (f := .gen PX.hiddenS) q23 F23.kp k23 (Nat.le_refl _) b23)
  have T25 : Tab P w K mg base (fldK K) 53 c25 G := T24.fn rfl (fnE_kw (f := .gen PX.hiddenS) [1, 0] (by simp) q23 F23.kp k23 (Nat.le_refl _) kw23)
  have k24 : FnOk P w K mg base (L2.CX P w) 55 _ fd24 ["_law_way", "_law_desk", "_law_known"] (spG K (fldK K) LH.toldHS) := fn_gen (fun_of (st := (top 54)) F24) sc__law_told (T25.nm ["_law_way", "_law_desk", "_law_known", "e"]) ck__law_told (fun ds m Q E ⟨_, _, _, hh, _⟩ => by rw [hh]; rfl) (LH.d_toldH gGH4)
  have T26 : Tab P w K mg base (fldK K) 55 c26 G := (T25.mono (Nat.le_add_right 53 2)).fn rfl (fnE_pos (f := .gen LH.toldHS) q24 F24.kp k24 (Nat.le_refl _) b24)
  have k25 : FnOk P w K mg base (L2.CX P w) 57 _ fd25 ["value"] (spP K (fldK K) PX.isIntegerS) := fn_pure (fun_of (st := (top 17)) F25) sc_is_integer (T26.nm ["value"]) ck_is_integer (fun ds Q E ⟨_, hh, _⟩ => by rw [hh]; rfl) PX.d_is_integer
  have T27 : Tab P w K mg base (fldK K) 57 c27 G := (T26.mono (Nat.le_add_right 55 2)).fn rfl (fnE_pos (f := .pure PX.isIntegerS) q25 F25.kp k25 (Nat.le_refl _) b25)
  have k26 : FnOk P w K mg base (L2.CX P w) 59 _ fd26 ["shape", "standing", "value"] (spP K (fldK K) PX.isStepS) := fn_pure (fun_of (st := (top 33)) F26) sc_is_step (T27.nm ["shape", "standing", "value", "number", "name", "sure", "perhaps", "other"]) ck_is_step (fun ds Q E ⟨_, _, _, _, hh, _⟩ => by rw [hh]; rfl) (PX.d_is_step gGP)
  have T28 : Tab P w K mg base (fldK K) 59 c28 G := (T27.mono (Nat.le_add_right 57 2)).fn rfl (fnE_pos (f := .pure PX.isStepS) q26 F26.kp k26 (Nat.le_refl _) b26)
  have k27 : FnOk P w K mg base (L2.CX P w) 61 _ fd27 ["shape", "standing"] (spP K (fldK K) PX.nextStepS) := fn_pure (fun_of (st := (top 34)) F27) sc_next_step (T28.nm ["shape", "standing", "number", "name", "sure", "perhaps"]) ck_next_step (fun ds Q E ⟨_, _, hh, _⟩ => by rw [hh]; rfl) (PX.d_next_step gGP2)
  have T29 : Tab P w K mg base (fldK K) 61 c29 G := (T28.mono (Nat.le_add_right 59 2)).fn rfl (fnE_pos (f := .pure PX.nextStepS) q27 F27.kp k27 (Nat.le_refl _) b27)
  have k28 : FnOk P w K mg base (L2.CX P w) 63 _ fd28 ["shape", "readings"] (spG K (fldK K) PX.stepsFromS) := fn_gen (fun_of (st := (top 35)) F28) sc_steps_from (T29.nm ["shape", "readings", "found", "standing", "step"]) ck_steps_from (fun ds m Q E ⟨_, _, hh, _⟩ => by rw [hh]; rfl) (PX.d_steps_from gGP3)
  have T30 : Tab P w K mg base (fldK K) 63 c30 G := (T29.mono (Nat.le_add_right 61 2)).fn rfl (fnE_pos (f := .gen PX.stepsFromS) q28 F28.kp k28 (Nat.le_refl _) b28)
  have k29 : FnOk P w K mg base (L2.CX P w) 65 _ fd29 ["shape", "readings"] (spP K (fldK K) PX.reachedS) := fn_pure (fun_of (st := (top 36)) F29) sc_reached (T30.nm ["shape", "readings", "steps", "step"]) ck_reached (fun ds Q E ⟨_, _, hh, _⟩ => by rw [hh]; rfl) (PX.d_reached gGP4)
  have T31 : Tab P w K mg base (fldK K) 65 c31 G := (T30.mono (Nat.le_add_right 63 2)).fn rfl (fnE_pos (f := .pure PX.reachedS) q29 F29.kp k29 (Nat.le_refl _) b29)
  have k30 : FnOk P w K mg base (L2.CX P w) 67 _ fd30 ["_law_model_here", "_law_readings1"] (spP K (fldK K) LX.lReachedS) := fn_pure (fun_of (st := (top 51)) F30) sc__law_reached (T31.nm ["_law_model_here", "_law_readings1", "_law_standing", "_law_turn", "_law_sure", "_law_perhaps", "_law_open1", "_law_name"]) ck__law_reached (fun ds Q E ⟨_, _, hh, _⟩ => by rw [hh]; rfl) LX.d_reachedL
  have T32 : Tab P w K mg base (fldK K) 67 c32 G := (T31.mono (Nat.le_add_right 65 2)).fn rfl (fnE_pos (f := .pure LX.lReachedS) q30 F30.kp k30 (Nat.le_refl _) b30)
  have k31 : FnOk P w K mg base (L2.CX P w) 69 _ fd31 ["_law_state", "_law_names"] (spG K (fldK K) LX.oddS) := fn_gen (fun_of (st := (top 52)) F31) sc__law_odd_set (T32.nm ["_law_state", "_law_names", "_law_part_here", "_law_odd", "_law_thing"]) ck__law_odd_set (fun ds m Q E ⟨_, _, _, _, hh, _⟩ => by rw [hh]; rfl) (LX.d_odd_set gGL5)
  have T33 : Tab P w K mg base (fldK K) 69 c33 G := (T32.mono (Nat.le_add_right 67 2)).fn rfl (fnE_pos (f := .gen LX.oddS) q31 F31.kp k31 (Nat.le_refl _) b31)
  exact fn_gen (fun_of (st := (top 55)) F32) sc_law (T33.nm ["_law_script", "_law_state", "_law_names", "_law_models", "_law_desks", "_law_turn", "_law_known", "_law_k", "_law_odd", "_law_model_here", "_law_due_here", "_law_told_here", "_law_found", "_law_name", "_law_chosen"]) ck_law (fun ds m Q E ⟨_, hh, _⟩ => by rw [hh]; rfl) (LH.d_lawH gGH5)
end
end K27

set_option Elab.async false
set_option linter.all false
set_option maxRecDepth 100000
set_option maxHeartbeats 0
open PySem PySem.W PySem.Calls PyProof.Rows
theorem PySem.Challenge.cw_anyfactors_k27_hidden_sets_holds : PySem.Challenge.rw_anyfactors_k27_hidden_sets.Holds := by
  w_on; o_law
  refine HandSHeadRun.head_any (r := OpenLaw.row PySem.Challenge.rw_anyfactors_k27_hidden_sets) (q := view (OpenLaw.row PySem.Challenge.rw_anyfactors_k27_hidden_sets).prog [55]) (H := K27.hk) (ob := K27.ob) (M := 30000) (loose := K27.loose) (d := HandSHeadRun.topDef (OpenLaw.row PySem.Challenge.rw_anyfactors_k27_hidden_sets).prog 55) (kwd := []) K27.ob_eq
    (by kernel_rfl) (fun s => by kernel_rfl) K27.run (by kernel_rfl) (by kernel_rfl) (by kernel_rfl) (by rfl) (by first | assumption | decide +kernel) (by decide +kernel) ⟨rfl, rfl, rfl, rfl, rfl, by decide +kernel⟩ ?hw ?hc
  case hw => w_witness2
  case hc =>
    refine DL.walk_D (l := PySem.Challenge.rw_anyfactors_k27_hidden_sets) (n := 63) (k := 71) (x := "_law_script") (s := LH.lawHS) rfl (by decide) (by kernel_rfl) ⟨rfl, by decide, by decide⟩ (by decide) ?F (fun ns hl => ⟨ns, rfl, Nat.le_trans hl (by decide), fun _ => rfl⟩)
    intro w mg fa h Y G hmg0
    obtain ⟨K, KX, c⟩ := Y
    have hmg : mg ("law" : PySem.Str) = some (.ref fa) := by
      have e : (HandSHeadRun.topDef (OpenLaw.row PySem.Challenge.rw_anyfactors_k27_hidden_sets).prog 55).name = ("law" : PySem.Str) := by kernel_rfl
      rw [← e]
      exact hmg0
    obtain ⟨fd, hb, hF⟩ := K27.facts (P := (PySem.Challenge.rw_anyfactors_k27_hidden_sets).prog) (w := w) KX G hmg c
    exact ⟨K, fd, DL.fldK K, KX, hb, hF⟩

