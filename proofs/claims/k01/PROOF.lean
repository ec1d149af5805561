import PyProof.Rows.All
import Wide.All
import OpenK.AllK
import Wide.FinOn
import HandS.ForMost
import HandS.ForExc
import HandS.Star
import HandS.IsInst
import HandS.Wide
import HandS.Deep
import HandS.TupAny
import HandS.Flow
import HandS.Style
import HandS.Zip
import HandS.Walk
import HandS.Defaults
import HandS.Ends
import HandS.More
import HandS.Head0
import HandS.Head1
import HandS.Head2
import HandS.HeadEnd
import HandS.HeadHook1
import HandS.HeadHook2
import PySem.Challenge.RW_anyfactors_k01_valid_names
set_option linter.all false
/-! DL: a small language with its meaning (what must hold ahead so that what is wanted holds behind), in plain Lean.
Values are whole data (texts as lists of signs, tuples, frozen lists and dicts), or places of things that may still change. -/
namespace DL
abbrev S := List Nat
abbrev DK := Sum Int S
inductive DV where
  | non | bl (b : Bool) | int (i : Int) | str (s : S)
  | tup (xs : List DV) | lst (xs : List DV)
  | dic (kvs : List (DK × DV)) | dit (kvs : List (List DK × DV))
  | ins (c : Nat) (fs : List (S × DV))
  | loc (a : Nat)
  | scr (ns : List Int)
abbrev Env := List (Option DV)
inductive DO where
  | lst (xs : List DV) | dic (kvs : List (DK × DV)) | dit (kvs : List (List DK × DV)) | ins (c : Nat) (fs : List (S × DV)) | st
abbrev Mu := Nat → Option DO
def Mu.put (m : Mu) (a : Nat) (o : DO) : Mu := fun b => if b = a then some o else m b
def Mu.del (m : Mu) (a : Nat) : Mu := fun b => if b = a then none else m b
def Mu.nil : Mu := fun _ => none
structure Exc where
  cls : Nat
  arg : DV
abbrev Post := DV → Mu → Prop
abbrev XPost := Exc → Mu → Prop
/-- a def by its promise; one that sees no changing thing -/
abbrev FSp := List DV → Mu → Post → XPost → Prop
abbrev PSp := List DV → (DV → Prop) → (Exc → Prop) → Prop
inductive Fn where
  | pure (s : PSp) | gen (s : FSp)
abbrev LINE : Nat := 16777216
/-- what stands there -/
def look (m : Mu) : DV → DV
  | .loc a => match m a with
    | some (.lst xs) => .lst xs
    | some (.dic k) => .dic k
    | some (.dit k) => .dit k
    | some (.ins c fs) => .ins c fs
    | _ => .loc a
  | d => d
def isLoc : DV → Bool
  | .loc _ => true
  | _ => false
/-! no list, no dict, no object, no place within -/
mutual
def noMut : DV → Bool
  | .tup xs => noMuts xs
  | .ins _ _ => false
  | .lst _ => false
  | .dic _ => false
  | .dit _ => false
  | .loc _ => false
  | .scr _ => false
  | .non => true
  | .bl _ => true
  | .int _ => true
  | .str _ => true
def noMuts : List DV → Bool
  | [] => true
  | x :: r => noMut x && noMuts r
end
/-! == of data -/
mutual
def eqv : DV → DV → Bool
  | .non, .non => true
  | .bl a, .bl b => a == b
  | .bl a, .int j => (if a then 1 else 0) == j
  | .int i, .bl b => i == (if b then 1 else 0)
  | .int i, .int j => i == j
  | .str x, .str y => x == y
  | .lst xs, .lst ys => eqvs xs ys
  | .tup xs, .tup ys => eqvs xs ys
  | _, _ => false
def eqvs : List DV → List DV → Bool
  | [], [] => true
  | x :: r, y :: s => eqv x y && eqvs r s
  | _, _ => false
end
/-! None, bools, ints, texts, lists and tuples of such -/
mutual
def plain : DV → Bool
  | .non => true
  | .bl _ => true
  | .int _ => true
  | .str _ => true
  | .tup xs => plains xs
  | .lst xs => plains xs
  | _ => false
def plains : List DV → Bool
  | [] => true
  | x :: r => plain x && plains r
end
mutual
def depth : DV → Nat
  | .tup xs => depths xs + 1
  | .lst xs => depths xs + 1
  | _ => 0
def depths : List DV → Nat
  | [] => 0
  | x :: r => max (depth x) (depths r)
end
inductive BOp where
  | add | sub | mul | fdiv | mod | pow
  deriving DecidableEq
inductive COp where
  | eq | ne | lt | le | gt | ge | isin | notin | isN | notN
  deriving DecidableEq
inductive Kind where
  | int | bool | str | tuple | list | dict | ins (c : Nat)
  deriving DecidableEq
inductive Blt where
  | len | abs | int | list | tuple | sorted | any | all | sum | max2 | min2 | str
  deriving DecidableEq
inductive Met where
  | append | pop | pop0 | join | split
  deriving DecidableEq
inductive Pat where
  | name (i : Nat) | pair (a b : Pat)
mutual
inductive Ex where
  | var (i : Nat)
  | cst (d : DV)
  | tup (es : Its) | lst (es : Its)
  | bin (op : BOp) (a b : Ex)
  | neg (a : Ex)
  | cmp (op : COp) (a b : Ex)
  | cmp2 (op op' : COp) (a b c : Ex)
  | notv (a : Ex) | andv (a b : Ex) | orv (a b : Ex)
  | ife (t : Ts) (a b : Ex)
  | sub (a b : Ex)
  | slc (a : Ex) (lo hi : Ox)
  | rev (a : Ex)
  | call (f : Nat) (es : Exs)
  | blt (b : Blt) (es : Exs)
  | isi (e : Ex) (k : Kind)
  | met (m : Met) (o : Ex) (es : Exs)
  | comp (p : Pat) (vs : List Nat) (it : It) (t : Ts) (e : Ex)
  | own (e : Ex) | frz (e : Ex)
inductive Ts where
  | and (a b : Ts) | or (a b : Ts) | not (a : Ts) | ex (e : Ex) | yes
inductive Ox where
  | none | some (e : Ex)
inductive Exs where
  | nil | cons (e : Ex) (r : Exs)
inductive Its where
  | nil | one (e : Ex) (r : Its) | star (e : Ex) (r : Its)
inductive It where
  | seq (e : Ex) | range1 (e : Ex) | range2 (a b : Ex) | range3 (a b : Ex) (s : Int) | enum (e : Ex) | zip (a b : Ex)
end
/-! ### operations on values -/
def idx (n : Nat) (i : Int) : Option Nat := if 0 ≤ i then (if i < n then some i.toNat else none) else if -(n : Int) ≤ i then some (i + n).toNat else none
def atD (xs : List α) (i : Int) : Option α := (idx xs.length i).bind fun j => xs[j]?
/-- a slice's end -/
def sIx (n dflt : Nat) : Option Int → Nat
  | none => dflt
  | some i => if i < 0 then (i + n).toNat else min i.toNat n
def cut (xs : List α) (lo hi : Option Int) : List α := (xs.drop (sIx xs.length 0 lo)).take (sIx xs.length xs.length hi - sIx xs.length 0 lo)
def mulOk (i j : Int) : Prop := ((-(2 ^ 64) < i ∧ i < 2 ^ 64) ∨ (-(2 ^ 64) < j ∧ j < 2 ^ 64)) ∨ (i.natAbs < 2 ^ 400000 ∧ j.natAbs < 2 ^ 400000)
def divOk (j : Int) : Prop := (j ≠ 0 ∧ j.natAbs < 1073741824) ∨ (0 < j ∧ j.natAbs < 2 ^ 9000)
def binD (op : BOp) (x y : DV) (k : DV → Prop) : Prop :=
  match op, x, y with
  | .add, .int i, .int j => k (.int (i + j))
  | .add, .str s, .str t => s.length + t.length ≤ LINE ∧ k (.str (s ++ t))
  | .add, .tup s, .tup t => s.length + t.length ≤ LINE ∧ k (.tup (s ++ t))
  | .add, .lst s, .lst t => s.length + t.length ≤ LINE ∧ k (.lst (s ++ t))
  | .sub, .int i, .int j => k (.int (i - j))
  | .mul, .int i, .int j => mulOk i j ∧ k (.int (i * j))
  | .mul, .lst s, .int j => (0 ≤ j ∧ j < 1000 ∧ s.length ≤ 1000) ∧ k (.lst (List.replicate j.toNat s).flatten)
  | .fdiv, .int i, .int j => divOk j ∧ k (.int (i.fdiv j))
  | .mod, .int i, .int j => j ≠ 0 ∧ k (.int (i.fmod j))
  | .pow, .int i, .int j => (0 ≤ j ∧ j ≤ 1000 ∧ i.natAbs < 2 ^ 64) ∧ k (.int (i ^ j.toNat))
  | _, _, _ => False
def isNonD : DV → Bool
  | .non => true
  | _ => false
def cmpD (op : COp) (x y : DV) (k : DV → Prop) : Prop :=
  match op with
  | .eq => (plain x = true ∧ plain y = true ∧ depth x ≤ 60 ∧ depth y ≤ 60) ∧ k (.bl (eqv x y))
  | .ne => (plain x = true ∧ plain y = true ∧ depth x ≤ 60 ∧ depth y ≤ 60) ∧ k (.bl (!eqv x y))
  | .isN => isNonD y = true ∧ k (.bl (isNonD x))
  | .notN => isNonD y = true ∧ k (.bl (!isNonD x))
  | .lt => match x, y with
    | .int i, .int j => k (.bl (decide (i < j)))
    | .str i, .str j => k (.bl (decide (i < j)))
    | _, _ => False
  | .le => match x, y with
    | .int i, .int j => k (.bl (decide (i ≤ j)))
    | _, _ => False
  | .gt => match x, y with
    | .int i, .int j => k (.bl (decide (j < i)))
    | _, _ => False
  | .ge => match x, y with
    | .int i, .int j => k (.bl (decide (j ≤ i)))
    | _, _ => False
  | .isin => match y with
    | .lst ys => (plain x = true ∧ plains ys = true ∧ depth x ≤ 60 ∧ depths ys ≤ 59) ∧ k (.bl (ys.any fun z => eqv z x))
    | .tup ys => (plain x = true ∧ plains ys = true ∧ depth x ≤ 60 ∧ depths ys ≤ 59) ∧ k (.bl (ys.any fun z => eqv z x))
    | .str z => (match x with
      | .str [c] => k (.bl (decide (c ∈ z)))
      | _ => False)
    | _ => False
  | .notin => match y with
    | .lst ys => (plain x = true ∧ plains ys = true ∧ depth x ≤ 60 ∧ depths ys ≤ 59) ∧ k (.bl (!ys.any fun z => eqv z x))
    | .tup ys => (plain x = true ∧ plains ys = true ∧ depth x ≤ 60 ∧ depths ys ≤ 59) ∧ k (.bl (!ys.any fun z => eqv z x))
    | .str z => (match x with
      | .str [c] => k (.bl (!decide (c ∈ z)))
      | _ => False)
    | _ => False
def truD : DV → Option Bool
  | .non => some false
  | .bl b => some b
  | .int i => some (i != 0)
  | .lst s => some (!s.isEmpty)
  | .tup s => some (!s.isEmpty)
  | _ => none
def isiD (k : Kind) (d : DV) : Option Bool :=
  match d with
  | .non => (match k with | .ins _ => none | _ => some false)
  | .bl _ => (match k with | .ins _ => none | .int => some true | .bool => some true | _ => some false)
  | .int _ => (match k with | .ins _ => none | .int => some true | _ => some false)
  | .str _ => (match k with | .ins _ => none | .str => some true | _ => some false)
  | .tup _ => (match k with | .ins _ => none | .tuple => some true | _ => some false)
  | .lst _ => (match k with | .ins _ => none | .list => some true | _ => some false)
  | .dic _ => (match k with | .ins _ => none | .dict => some true | _ => some false)
  | _ => none
def subD (x y : DV) (k : DV → Prop) : Prop :=
  match x, y with
  | .lst xs, .int i => ∃ v, atD xs i = some v ∧ k v
  | .tup xs, .int i => ∃ v, atD xs i = some v ∧ k v
  | .str xs, .int i => xs.length ≤ LINE ∧ ∃ v, atD xs i = some v ∧ k (.str [v])
  | _, _ => False
def cutD (x : DV) (lo hi : Option Int) (k : DV → Prop) : Prop :=
  match x with
  | .lst xs => k (.lst (cut xs lo hi))
  | .tup xs => k (.tup (cut xs lo hi))
  | .str xs => xs.length ≤ LINE ∧ k (.str (cut xs lo hi))
  | _ => False
def revD (x : DV) (k : DV → Prop) : Prop :=
  match x with
  | .lst xs => k (.lst xs.reverse)
  | .str xs => xs.length ≤ LINE ∧ k (.str xs.reverse)
  | _ => False
def strs? : List DV → Option (List S)
  | [] => some []
  | .str s :: r => (strs? r).map (s :: ·)
  | _ => none
def ints? : List DV → Option (List Int)
  | [] => some []
  | .int s :: r => (ints? r).map (s :: ·)
  | _ => none
def bls? : List DV → Option (List Bool)
  | [] => some []
  | .bl s :: r => (bls? r).map (s :: ·)
  | _ => none
def sjoin (sep : S) : List S → S
  | [] => []
  | [x] => x
  | x :: r => x ++ sep ++ sjoin sep r
/-- what a sorted list of texts is -/
def sortS (xs : List S) : List S := xs.mergeSort fun a b => decide (a ≤ b)
def sortI (xs : List Int) : List Int := xs.mergeSort fun a b => decide (a ≤ b)
def lenD (ds : List DV) (k : DV → Prop) : Prop :=
  match ds with
  | [.lst xs] => k (.int xs.length)
  | [.tup xs] => k (.int xs.length)
  | [.str xs] => xs.length ≤ LINE ∧ k (.int xs.length)
  | _ => False
def absD (ds : List DV) (k : DV → Prop) : Prop :=
  match ds with
  | [.int i] => k (.int (if i < 0 then -i else i))
  | _ => False
def intD (ds : List DV) (k : DV → Prop) : Prop :=
  match ds with
  | [.int i] => k (.int i)
  | [.bl b] => k (.int (if b then 1 else 0))
  | _ => False
def listD (ds : List DV) (k : DV → Prop) : Prop :=
  match ds with
  | [.lst xs] => k (.lst xs)
  | [.tup xs] => k (.lst xs)
  | [.scr ns] => k (.lst (ns.map .int))
  | _ => False
def tupleD (ds : List DV) (k : DV → Prop) : Prop :=
  match ds with
  | [.lst xs] => k (.tup xs)
  | [.tup xs] => k (.tup xs)
  | _ => False
def maxD (ds : List DV) (k : DV → Prop) : Prop :=
  match ds with
  | [.int i, .int j] => k (.int (if j > i then j else i))
  | _ => False
def minD (ds : List DV) (k : DV → Prop) : Prop :=
  match ds with
  | [.int i, .int j] => k (.int (if j < i then j else i))
  | _ => False
def anyD (ds : List DV) (k : DV → Prop) : Prop :=
  match ds with
  | [.lst xs] => ∃ bs, bls? xs = some bs ∧ k (.bl (bs.any id))
  | _ => False
def allD (ds : List DV) (k : DV → Prop) : Prop :=
  match ds with
  | [.lst xs] => ∃ bs, bls? xs = some bs ∧ k (.bl (bs.all id))
  | _ => False
def sumD (ds : List DV) (k : DV → Prop) : Prop :=
  match ds with
  | [.lst xs] => ∃ is, ints? xs = some is ∧ k (.int is.sum)
  | _ => False
def bltD (b : Blt) (ds : List DV) (k : DV → Prop) : Prop :=
  match b with
  | .len => lenD ds k
  | .abs => absD ds k
  | .int => intD ds k
  | .list => listD ds k
  | .tuple => tupleD ds k
  | .max2 => maxD ds k
  | .min2 => minD ds k
  | .any => anyD ds k
  | .all => allD ds k
  | .sum => sumD ds k
  | .sorted => False
  | .str => False
/-- the items that a for walks -/
def itemsD : DV → Option (List DV)
  | .lst xs => some xs
  | .tup xs => some xs
  | .str xs => some (xs.map fun c => .str [c])
  | .scr ns => some (ns.map .int)
  | _ => none
def rangeL (lo : Int) (n : Nat) (s : Int) : List DV := (List.range n).map fun (i : Nat) => DV.int (lo + (i : Int) * s)
def enumL (xs : List DV) : List DV := (List.range xs.length).zipWith (fun (i : Nat) x => DV.tup [.int (i : Int), x]) xs
def zipL (xs ys : List DV) : List DV := xs.zipWith (fun x y => .tup [x, y]) ys
def bindP : Pat → DV → Env → Mu → (Env → Prop) → Prop
  | .name i, d, r, _, k => i < r.length ∧ k (r.set i (some d))
  | .pair a b, d, r, m, k => match look m d with
    | .tup [x, y] => bindP a x r m fun r1 => bindP b y r1 m k
    | _ => False
/-- the walk of a comprehension over items: those kept -/
def compW (turn : DV → Mu → (Option DV → Mu → Prop) → Prop) (src : Mu → Prop) : List DV → List DV → Mu → (List DV → Mu → Prop) → Prop
  | [], acc, m, k => src m ∧ k acc m
  | x :: r, acc, m, k => src m ∧ turn x m fun o m1 => match o with
    | some d => compW turn src r (acc ++ [d]) m1 k
    | none => compW turn src r acc m1 k
def isRng : It → Bool
  | .range1 _ => true
  | .range2 _ _ => true
  | .range3 _ _ _ => true
  | _ => false
section
variable (G : Nat → Option Fn)
def callD (f : Nat) (ds : List DV) (m : Mu) (k : Post) (e : XPost) : Prop :=
  match G f with
  | some (.pure s) => s (ds.map (look m)) (fun d => (ds.any isLoc = true → noMut d = true) ∧ k d m) (fun x => (ds.any isLoc = true → noMut x.arg = true) ∧ e x m)
  | some (.gen s) => s ds m k e
  | none => False
def newD (d : DV) (m : Mu) (k : Post) : Prop :=
  match d with
  | .lst xs => ∀ a, m a = none → k (.loc a) (m.put a (.lst xs))
  | .dic xs => ∀ a, m a = none → k (.loc a) (m.put a (.dic xs))
  | .dit xs => ∀ a, m a = none → k (.loc a) (m.put a (.dit xs))
  | _ => False
def frzD (d : DV) (m : Mu) (k : Post) : Prop :=
  match d with
  | .loc a => (match m a with
    | some (.lst xs) => k (.lst xs) (m.del a)
    | some (.dic xs) => k (.dic xs) (m.del a)
    | some (.dit xs) => k (.dit xs) (m.del a)
    | _ => False)
  | _ => False
def mtyp : Met → DV → Bool
  | .append, .lst _ => true
  | .pop, .lst _ => true
  | .pop0, .lst _ => true
  | .join, .str _ => true
  | .split, .str _ => true
  | _, _ => false
def appendD (o : DV) (ds : List DV) (m : Mu) (k : Post) : Prop :=
  match o, ds with
  | .loc a, [d] => ∃ xs, m a = some (.lst xs) ∧ xs.length < LINE ∧ k .non (m.put a (.lst (xs ++ [d])))
  | _, _ => False
def popD (o : DV) (ds : List DV) (m : Mu) (k : Post) : Prop :=
  match o, ds with
  | .loc a, [.int i] => ∃ xs j v, m a = some (.lst xs) ∧ idx xs.length i = some j ∧ xs[j]? = some v ∧ k v (m.put a (.lst (xs.eraseIdx j)))
  | _, _ => False
def joinD (o : DV) (ds : List DV) (m : Mu) (k : Post) : Prop :=
  match o, ds with
  | .str s, [d] => ∃ xs, (look m d = .lst xs ∨ look m d = .tup xs) ∧ ∃ ss, strs? xs = some ss ∧ (ss.map List.length).sum + ss.length * s.length ≤ LINE ∧ k (.str (sjoin s ss)) m
  | _, _ => False
def metD (t : Met) (o : DV) (ds : List DV) (m : Mu) (k : Post) : Prop :=
  match t with
  | .append => appendD o ds m k
  | .pop => popD o ds m k
  | .join => joinD o ds m k
  | .pop0 => False
  | .split => False
mutual
def rdE : Ex → Env → Mu → Post → XPost → Prop
  | .var i, r, m, k, _ => ∃ d, r[i]? = some (some d) ∧ k d m
  | .cst d, _, m, k, _ => k d m
  | .tup es, r, m, k, e => rdI es r m (fun ds m1 => ds.length ≤ LINE ∧ k (.tup ds) m1) e
  | .lst es, r, m, k, e => rdI es r m (fun ds m1 => ds.length ≤ LINE ∧ k (.lst ds) m1) e
  | .bin op a b, r, m, k, e => rdE a r m (fun x m1 => rdE b r m1 (fun y m2 => binD op (look m2 x) (look m2 y) fun z => k z m2) e) e
  | .neg a, r, m, k, e => rdE a r m (fun x m1 => ∃ i, x = .int i ∧ k (.int (-i)) m1) e
  | .cmp op a b, r, m, k, e => rdE a r m (fun x m1 => rdE b r m1 (fun y m2 => cmpD op (look m2 x) (look m2 y) fun z => k z m2) e) e
  | .cmp2 op op' a b c, r, m, k, e => rdE a r m (fun x m1 => rdE b r m1 (fun y m2 => cmpD op (look m2 x) (look m2 y) fun z => ∃ q, z = .bl q ∧
      if q = true then rdE c r m2 (fun w m3 => cmpD op' (look m3 y) (look m3 w) fun z => k z m3) e else k (.bl false) m2) e) e
  | .notv a, r, m, k, e => rdE a r m (fun x m1 => ∃ c, x = .bl c ∧ k (.bl (!c)) m1) e
  | .andv a b, r, m, k, e => rdE a r m (fun x m1 => ∃ c, x = .bl c ∧ if c = true then rdE b r m1 k e else k (.bl false) m1) e
  | .orv a b, r, m, k, e => rdE a r m (fun x m1 => ∃ c, x = .bl c ∧ if c = true then k (.bl true) m1 else rdE b r m1 k e) e
  | .ife t a b, r, m, k, e => rdT t r m (fun c m1 => if c = true then rdE a r m1 k e else rdE b r m1 k e) e
  | .sub a b, r, m, k, e => rdE a r m (fun x m1 => rdE b r m1 (fun y m2 => subD (look m2 x) y fun z => k z m2) e) e
  | .slc a lo hi, r, m, k, e => rdE a r m (fun x m1 => rdO lo r m1 (fun i m2 => rdO hi r m2 (fun j m3 => cutD (look m3 x) i j fun z => k z m3) e) e) e
  | .rev a, r, m, k, e => rdE a r m (fun x m1 => revD (look m1 x) fun z => k z m1) e
  | .call f es, r, m, k, e => rdA es r m (fun ds m1 => callD G f ds m1 k e) e
  | .blt b es, r, m, k, e => rdA es r m (fun ds m1 => bltD b (ds.map (look m1)) fun z => k z m1) e
  | .isi a t, r, m, k, e => rdE a r m (fun x m1 => ∃ b, isiD t (look m1 x) = some b ∧ k (.bl b) m1) e
  | .met t o es, r, m, k, e => rdE o r m (fun x m1 => mtyp t (look m1 x) = true ∧ rdA es r m1 (fun ds m2 => metD t x ds m2 k) e) e
  | .comp p vs it t a, r, m, k, e => rdW it r m (fun src all m1 => (isRng it = true → all.length ≤ LINE) ∧
      compW (fun x m2 kk => bindP p x (vs.foldr (fun i q => q.set i none) r) m2 fun r2 => rdT t r2 m2 (fun c m3 => if c = true then rdE a r2 m3 (fun d m4 => kk (some d) m4) (fun _ _ => False) else kk none m3) (fun _ _ => False)) src all [] m1 (fun ds m2 => k (.lst ds) m2)) e
  | .own a, r, m, k, e => rdE a r m (fun d m1 => newD d m1 k) e
  | .frz a, r, m, k, e => rdE a r m (fun d m1 => frzD d m1 k) e
def rdT : Ts → Env → Mu → (Bool → Mu → Prop) → XPost → Prop
  | .and a b, r, m, k, e => rdT a r m (fun c m1 => if c = true then rdT b r m1 k e else k false m1) e
  | .or a b, r, m, k, e => rdT a r m (fun c m1 => if c = true then k true m1 else rdT b r m1 k e) e
  | .not a, r, m, k, e => rdT a r m (fun c m1 => k (!c) m1) e
  | .ex a, r, m, k, e => rdE a r m (fun x m1 => ∃ c, truD (look m1 x) = some c ∧ k c m1) e
  | .yes, _, m, k, _ => k true m
def rdO : Ox → Env → Mu → (Option Int → Mu → Prop) → XPost → Prop
  | .none, _, m, k, _ => k none m
  | .some a, r, m, k, e => rdE a r m (fun x m1 => ∃ i, x = .int i ∧ k (some i) m1) e
def rdA : Exs → Env → Mu → (List DV → Mu → Prop) → XPost → Prop
  | .nil, _, m, k, _ => k [] m
  | .cons a t, r, m, k, e => rdE a r m (fun x m1 => rdA t r m1 (fun ds m2 => k (x :: ds) m2) e) e
def rdI : Its → Env → Mu → (List DV → Mu → Prop) → XPost → Prop
  | .nil, _, m, k, _ => k [] m
  | .one a t, r, m, k, e => rdE a r m (fun x m1 => rdI t r m1 (fun ds m2 => k (x :: ds) m2) e) e
  | .star a t, r, m, k, e => rdE a r m (fun x m1 => ∃ xs, (look m1 x = .lst xs ∨ look m1 x = .tup xs) ∧ rdI t r m1 (fun ds m2 => k (xs ++ ds) m2) e) e
def rdW : It → Env → Mu → ((Mu → Prop) → List DV → Mu → Prop) → XPost → Prop
  | .seq a, r, m, k, e => rdE a r m (fun x m1 => ∃ xs, itemsD (look m1 x) = some xs ∧ (∀ s, look m1 x = .str s → s.length ≤ LINE) ∧ k (fun m2 => itemsD (look m2 x) = some xs) xs m1) e
  | .range1 a, r, m, k, e => rdE a r m (fun x m1 => ∃ n, x = .int n ∧ n < 2 ^ 60 ∧ -(2 ^ 60) < n ∧ k (fun _ => True) (rangeL 0 n.toNat 1) m1) e
  | .range2 a b, r, m, k, e => rdE a r m (fun x m1 => rdE b r m1 (fun y m2 => ∃ i n, x = .int i ∧ y = .int n ∧ (-(2 ^ 60) < i ∧ i < 2 ^ 60 ∧ -(2 ^ 60) < n ∧ n < 2 ^ 60) ∧ k (fun _ => True) (rangeL i (n - i).toNat 1) m2) e) e
  | .range3 a b s, r, m, k, e => rdE a r m (fun x m1 => rdE b r m1 (fun y m2 => ∃ i n, x = .int i ∧ y = .int n ∧ s = -1 ∧ (-(2 ^ 60) < i ∧ i < 2 ^ 60 ∧ -(2 ^ 60) < n ∧ n < 2 ^ 60) ∧ k (fun _ => True) (rangeL i (i - n).toNat (-1)) m2) e) e
  | .enum a, r, m, k, e => rdE a r m (fun x m1 => ∃ xs, (look m1 x = .lst xs ∨ look m1 x = .tup xs) ∧ k (fun m2 => look m2 x = look m1 x) (enumL xs) m1) e
  | .zip a b, r, m, k, e => rdE a r m (fun x m1 => rdE b r m1 (fun y m2 => ∃ xs ys, (look m2 x = .lst xs ∨ look m2 x = .tup xs) ∧ (look m2 y = .lst ys ∨ look m2 y = .tup ys) ∧ k (fun m3 => look m3 x = look m2 x ∧ look m3 y = look m2 y) (zipL xs ys) m2) e) e
end
/-! ### statements -/
structure Ends where
  nx : Env → Mu → Prop
  rt : Post
  bk : Env → Mu → Prop
  ct : Env → Mu → Prop
  ex : Exc → Env → Mu → Prop
mutual
inductive St where
  | set (p : Pat) (e : Ex)
  | par (i j : Nat) (a b : Ex)
  | aug (i : Nat) (op : BOp) (e : Ex)
  | sub (o i e : Ex)
  | saug (o i : Ex) (op : BOp) (e : Ex)
  | exp (e : Ex)
  | ret (e : Ex) | retN
  | ifs (t : Ts) (a b : Sts)
  | fr (p : Pat) (it : It) (b : Sts)
  | whl (t : Ts) (b : Sts)
  | rse (c : Nat) (e : Ex)
  | pass | brk | cont
inductive Sts where
  | nil | cons (s : St) (r : Sts)
end
/-- a for over items -/
def forW (p : Pat) (src : Mu → Prop) (body : Ends → Env → Mu → Prop) (D : Ends) : List DV → Env → Mu → Prop
  | [], r, m => src m ∧ D.nx r m
  | x :: t, r, m => src m ∧ bindP p x r m fun r1 => body { D with nx := forW p src body D t, ct := forW p src body D t, bk := D.nx } r1 m
def whlW (G : Nat → Option Fn) (t : Ts) (body : Ends → Env → Mu → Prop) (D : Ends) : Nat → Env → Mu → Prop
  | 0, _, _ => False
  | n + 1, r, m => rdT G t r m (fun c m1 => if c = true then body { D with nx := whlW G t body D n, ct := whlW G t body D n, bk := D.nx } r m1 else D.nx r m1) (fun x m => D.ex x r m)
/-- x op= y: the new value, what may change meanwhile -/
def augD (op : BOp) (x y : DV) (m : Mu) (k : DV → Mu → Prop) : Prop :=
  match op, x with
  | .add, .int i => (match y with
    | .int j => k (.int (i + j)) m
    | _ => False)
  | .sub, .int i => (match y with
    | .int j => k (.int (i - j)) m
    | _ => False)
  | .add, .loc a => ∃ xs zs, m a = some (.lst xs) ∧ look m y = .lst zs ∧ xs.length + zs.length ≤ LINE ∧ k (.loc a) (m.put a (.lst (xs ++ zs)))
  | _, _ => False
def setD (x : DV) (i v : DV) (m : Mu) (k : Mu → Prop) : Prop :=
  match x, i with
  | .loc a, .int i => ∃ xs j, m a = some (.lst xs) ∧ idx xs.length i = some j ∧ k (m.put a (.lst (xs.set j v)))
  | _, _ => False
/-- the item of a list that may change -/
def getD (x y : DV) (m : Mu) (k : DV → Prop) : Prop :=
  match y with
  | .int i => 0 ≤ i ∧ ∃ xs u, look m x = .lst xs ∧ xs[i.toNat]? = some u ∧ k u
  | _ => False
mutual
def rdS : St → Ends → Env → Mu → Prop
  | .set p a, D, r, m => rdE G a r m (fun d m1 => bindP p d r m1 fun r1 => D.nx r1 m1) (fun x m => D.ex x r m)
  | .par i j a b, D, r, m => rdE G a r m (fun x m1 => rdE G b r m1 (fun y m2 => (i < r.length ∧ j < r.length) ∧ D.nx ((r.set i (some x)).set j (some y)) m2) (fun x m => D.ex x r m)) (fun x m => D.ex x r m)
  | .aug i op a, D, r, m => ∃ x, r[i]? = some (some x) ∧ rdE G a r m (fun y m1 => augD op x y m1 fun z m2 => D.nx (r.set i (some z)) m2) (fun x m => D.ex x r m)
  | .sub o i a, D, r, m => rdE G a r m (fun v m1 => rdE G o r m1 (fun x m2 => rdE G i r m2 (fun y m3 => setD x y v m3 fun m4 => D.nx r m4) (fun x m => D.ex x r m)) (fun x m => D.ex x r m)) (fun x m => D.ex x r m)
  | .saug o i op a, D, r, m => rdE G o r m (fun x m1 => rdE G i r m1 (fun y m2 => getD x y m2 fun u => rdE G a r m2 (fun v m3 => augD op u v m3 fun z m4 => setD x y z m4 fun m5 => D.nx r m5) (fun x m => D.ex x r m)) (fun x m => D.ex x r m)) (fun x m => D.ex x r m)
  | .exp a, D, r, m => rdE G a r m (fun _ m1 => D.nx r m1) (fun x m => D.ex x r m)
  | .ret a, D, r, m => rdE G a r m D.rt (fun x m => D.ex x r m)
  | .retN, D, _, m => D.rt .non m
  | .ifs t a b, D, r, m => rdT G t r m (fun c m1 => if c = true then rdSs a D r m1 else rdSs b D r m1) (fun x m => D.ex x r m)
  | .fr p it b, D, r, m => rdW G it r m (fun src xs m1 => forW p src (fun D' => rdSs b D') D xs r m1) (fun x m => D.ex x r m)
  | .whl t b, D, r, m => ∃ n, whlW G t (fun D' => rdSs b D') D n r m
  | .rse c a, D, r, m => rdE G a r m (fun d m1 => D.ex ⟨c, d⟩ r m1) (fun x m => D.ex x r m)
  | .pass, D, r, m => D.nx r m
  | .brk, D, r, m => D.bk r m
  | .cont, D, r, m => D.ct r m
def rdSs : Sts → Ends → Env → Mu → Prop
  | .nil, D, r, m => D.nx r m
  | .cons s t, D, r, m => rdS s { D with nx := fun r1 m1 => rdSs t D r1 m1 } r m
end
/-- a def's body -/
def rdF (n : Nat) (b : Sts) (ds : List DV) (m : Mu) (k : Post) (e : XPost) : Prop :=
  rdSs G b { nx := fun _ m1 => k .non m1, rt := k, bk := fun _ _ => False, ct := fun _ _ => False, ex := fun x _ m => e x m } (ds.map some ++ List.replicate (n - ds.length) none) m
end
end DL

set_option Elab.async false
set_option linter.all false
set_option maxRecDepth 100000
set_option maxHeartbeats 2000000
/-! DLS1: how data stand in the abstract heap, and the lifted readings -/
namespace DL
open PySem L2
def keyD : Key → DK
  | .inl i => .inl i
  | .inr x => .inr x.cps.toList
/-! v is d, in the frozen part F -/
mutual
inductive RelD (K : PySem.W.Frag) (F : Hp) : V → DV → Prop
  | non : RelD K F .non .non
  | bl (b : Bool) : RelD K F (.bl b) (.bl b)
  | int (i : Int) : RelD K F (.int i) (.int i)
  | str (x : PySem.Str) : (∀ c ∈ x.cps.toList, c < 0x110000) → RelD K F (.str x) (.str x.cps.toList)
  | tup {a : Addr} {xs : List V} {ds : List DV} : F a = some (.tup xs) → RelDs K F xs ds → xs.length ≤ LINE → RelD K F (.ref a) (.tup ds)
  | lst {a : Addr} {xs : List V} {ds : List DV} : F a = some (.lst xs) → RelDs K F xs ds → xs.length ≤ LINE → RelD K F (.ref a) (.lst ds)
  | dic {a : Addr} {xs : List (Key × V)} {ds : List (DK × DV)} : Rd F a (.dK xs) → RelKs K F xs ds → RelD K F (.ref a) (.dic ds)
  | dit {a : Addr} {xs : List (List Key × V)} {ds : List (List DK × DV)} : Rd F a (.dT xs) → RelTs K F xs ds → RelD K F (.ref a) (.dit ds)
  | ins {a C dx : Addr} {xs : List (PySem.Str × V)} {ds : List (S × DV)} : F a = some (.ins C dx xs) → RelFs K F xs ds → RelD K F (.ref a) (.ins C ds)
  | loc (a : Addr) : RelD K F (.ref a) (.loc a)
  | scr {a : Addr} {ns : List Int} : SqL K F a (ns.map V.int) → ns.length ≤ LINE → RelD K F (.ref a) (.scr ns)
inductive RelDs (K : PySem.W.Frag) (F : Hp) : List V → List DV → Prop
  | nil : RelDs K F [] []
  | cons {v : V} {vs : List V} {d : DV} {ds : List DV} : RelD K F v d → RelDs K F vs ds → RelDs K F (v :: vs) (d :: ds)
inductive RelKs (K : PySem.W.Frag) (F : Hp) : List (Key × V) → List (DK × DV) → Prop
  | nil : RelKs K F [] []
  | cons {k : Key} {v : V} {vs : List (Key × V)} {d : DV} {ds : List (DK × DV)} : RelD K F v d → RelKs K F vs ds → RelKs K F ((k, v) :: vs) ((keyD k, d) :: ds)
inductive RelTs (K : PySem.W.Frag) (F : Hp) : List (List Key × V) → List (List DK × DV) → Prop
  | nil : RelTs K F [] []
  | cons {k : List Key} {v : V} {vs : List (List Key × V)} {d : DV} {ds : List (List DK × DV)} : RelD K F v d → RelTs K F vs ds → RelTs K F ((k, v) :: vs) ((k.map keyD, d) :: ds)
inductive RelFs (K : PySem.W.Frag) (F : Hp) : List (PySem.Str × V) → List (S × DV) → Prop
  | nil : RelFs K F [] []
  | cons {k : PySem.Str} {v : V} {vs : List (PySem.Str × V)} {d : DV} {ds : List (S × DV)} : RelD K F v d → RelFs K F vs ds → RelFs K F ((k, v) :: vs) ((k.cps.toList, d) :: ds)
end
theorem Rd.same {F F' : Hp} {a : Addr} {u : HO} (e : Same F F') (h : Rd F a u) : Rd F' a u := by
  rcases h with h | ⟨o, h⟩
  · exact .inl (e _ _ h)
  · exact .inr ⟨o, e _ _ h⟩
section
variable {K : PySem.W.Frag} {F F' : Hp}
mutual
theorem RelD.mono (e : Same F F') : ∀ {v : V} {d : DV}, RelD K F v d → RelD K F' v d
  | _, _, .non => .non
  | _, _, .bl b => .bl b
  | _, _, .int i => .int i
  | _, _, .str x h => .str x h
  | _, _, .tup h r l => .tup (e _ _ h) (RelDs.mono e r) l
  | _, _, .lst h r l => .lst (e _ _ h) (RelDs.mono e r) l
  | _, _, .dic h r => .dic (Rd.same e h) (RelKs.mono e r)
  | _, _, .dit h r => .dit (Rd.same e h) (RelTs.mono e r)
  | _, _, .ins h r => .ins (e _ _ h) (RelFs.mono e r)
  | _, _, .loc a => .loc a
  | _, _, .scr h l => .scr (Same.seq e h) l
theorem RelDs.mono (e : Same F F') : ∀ {v : List V} {d : List DV}, RelDs K F v d → RelDs K F' v d
  | _, _, .nil => .nil
  | _, _, .cons a b => .cons (RelD.mono e a) (RelDs.mono e b)
theorem RelKs.mono (e : Same F F') : ∀ {v : List (Key × V)} {d : List (DK × DV)}, RelKs K F v d → RelKs K F' v d
  | _, _, .nil => .nil
  | _, _, .cons a b => .cons (RelD.mono e a) (RelKs.mono e b)
theorem RelTs.mono (e : Same F F') : ∀ {v : List (List Key × V)} {d : List (List DK × DV)}, RelTs K F v d → RelTs K F' v d
  | _, _, .nil => .nil
  | _, _, .cons a b => .cons (RelD.mono e a) (RelTs.mono e b)
theorem RelFs.mono (e : Same F F') : ∀ {v : List (PySem.Str × V)} {d : List (S × DV)}, RelFs K F v d → RelFs K F' v d
  | _, _, .nil => .nil
  | _, _, .cons a b => .cons (RelD.mono e a) (RelFs.mono e b)
end
/-! what holds no list and no dict does without them -/
mutual
theorem RelD.less (e : ∀ b xs, F b = some (.tup xs) → F' b = some (.tup xs)) : ∀ {v : V} {d : DV}, RelD K F v d → noMut d = true → RelD K F' v d
  | _, _, .non, _ => .non
  | _, _, .bl b, _ => .bl b
  | _, _, .int i, _ => .int i
  | _, _, .str x h, _ => .str x h
  | _, _, .tup h r l, n => .tup (e _ _ h) (RelDs.less e r (by simpa [noMut] using n)) l
  | _, _, .lst h r l, n => by simp [noMut] at n
  | _, _, .dic h r, n => by simp [noMut] at n
  | _, _, .dit h r, n => by simp [noMut] at n
  | _, _, .ins h r, n => by simp [noMut] at n
  | _, _, .loc a, n => by simp [noMut] at n
  | _, _, .scr _ _, n => by simp [noMut] at n
theorem RelDs.less (e : ∀ b xs, F b = some (.tup xs) → F' b = some (.tup xs)) : ∀ {v : List V} {d : List DV}, RelDs K F v d → noMuts d = true → RelDs K F' v d
  | _, _, .nil, _ => .nil
  | _, _, .cons a b, n => by
    simp only [noMuts, Bool.and_eq_true] at n
    exact .cons (RelD.less e a n.1) (RelDs.less e b n.2)
end
theorem RelDs.length : ∀ {v : List V} {d : List DV}, RelDs K F v d → v.length = d.length
  | _, _, .nil => rfl
  | _, _, .cons _ b => by rw [List.length_cons, List.length_cons, RelDs.length b]
theorem RelDs.get : ∀ {v : List V} {d : List DV} {i : Nat} {x : DV}, RelDs K F v d → d[i]? = some x → ∃ y, v[i]? = some y ∧ RelD K F y x
  | _, _, _, _, .nil, h => by simp at h
  | _, _, 0, _, .cons a _, h => by
    simp at h
    subst h
    exact ⟨_, rfl, a⟩
  | _, _, i + 1, x, .cons _ b, h => by
    obtain ⟨y, h1, h2⟩ := RelDs.get (i := i) (x := x) b (by simpa using h)
    exact ⟨y, by simpa using h1, h2⟩
theorem RelDs.getV : ∀ {v : List V} {d : List DV} {i : Nat} {y : V}, RelDs K F v d → v[i]? = some y → ∃ x, d[i]? = some x ∧ RelD K F y x
  | _, _, _, _, .nil, h => by simp at h
  | _, _, 0, _, .cons a _, h => by
    simp at h
    subst h
    exact ⟨_, rfl, a⟩
  | _, _, i + 1, x, .cons _ b, h => by
    obtain ⟨y, h1, h2⟩ := RelDs.getV (i := i) (y := x) b (by simpa using h)
    exact ⟨y, by simpa using h1, h2⟩
theorem RelDs.append : ∀ {v w : List V} {d e : List DV}, RelDs K F v d → RelDs K F w e → RelDs K F (v ++ w) (d ++ e)
  | _, _, _, _, .nil, s => s
  | _, _, _, _, .cons r t, s => .cons r (RelDs.append t s)
theorem RelDs.set {x : V} {y : DV} (r : RelD K F x y) : ∀ {v : List V} {d : List DV} (i : Nat), RelDs K F v d → RelDs K F (v.set i x) (d.set i y)
  | _, _, _, .nil => .nil
  | _, _, 0, .cons _ t => .cons r t
  | _, _, i + 1, .cons q t => .cons q (RelDs.set r i t)
theorem RelDs.take : ∀ {v : List V} {d : List DV} (n : Nat), RelDs K F v d → RelDs K F (v.take n) (d.take n)
  | _, _, 0, _ => .nil
  | _, _, _ + 1, .nil => .nil
  | _, _, n + 1, .cons r t => .cons r (RelDs.take n t)
theorem RelDs.drop : ∀ {v : List V} {d : List DV} (n : Nat), RelDs K F v d → RelDs K F (v.drop n) (d.drop n)
  | _, _, 0, r => r
  | _, _, _ + 1, .nil => .nil
  | _, _, n + 1, .cons _ t => RelDs.drop n t
theorem RelDs.eraseIdx : ∀ {v : List V} {d : List DV} (i : Nat), RelDs K F v d → RelDs K F (v.eraseIdx i) (d.eraseIdx i)
  | _, _, _, .nil => .nil
  | _, _, 0, .cons _ t => t
  | _, _, i + 1, .cons q t => .cons q (RelDs.eraseIdx i t)
theorem RelDs.reverse : ∀ {v : List V} {d : List DV}, RelDs K F v d → RelDs K F v.reverse d.reverse
  | _, _, .nil => .nil
  | _, _, .cons q t => by
    rw [List.reverse_cons, List.reverse_cons]
    exact RelDs.append (RelDs.reverse t) (.cons q .nil)
end
/-- F's things stand in H -/
abbrev Sub (F H : Hp) : Prop := Same F H
def ObjR (K : PySem.W.Frag) (F H : Hp) (p : Addr) : DO → Prop
  | .lst ds => ∃ vs, H p = some (.lst vs) ∧ RelDs K F vs ds ∧ vs.length ≤ LINE
  | .dic ds => ∃ vs, H p = some (.dK vs) ∧ RelKs K F vs ds
  | .dit ds => ∃ vs, H p = some (.dT vs) ∧ RelTs K F vs ds
  | .ins c ds => ∃ dx vs, H p = some (.ins c dx vs) ∧ RelFs K F vs ds
  | .st => False
/-- the state: what is frozen (F), what must stay as it is beside (Z), what may change (m) -/
structure Wf (K : PySem.W.Frag) (Z F H : Hp) (m : Mu) : Prop where
  sf : Sub F H
  sz : Sub Z H
  ob : ∀ p o, m p = some o → F p = none ∧ Z p = none ∧ ObjR K F H p o
/-- only new things are frozen -/
structure Ext (Z F F' : Hp) : Prop where
  sm : Same F F'
  new : ∀ b o, F' b = some o → F b = some o ∨ Z b = none
theorem Ext.refl (Z F : Hp) : Ext Z F F := ⟨fun _ _ h => h, fun _ _ h => .inl h⟩
theorem Ext.trans {Z F F1 F2 : Hp} (a : Ext Z F F1) (b : Ext Z F1 F2) : Ext Z F F2 := ⟨fun x o h => b.sm x o (a.sm x o h), fun x o h => by
  rcases b.new x o h with z | z
  · exact a.new x o z
  · exact .inr z⟩
theorem sub_none {F H : Hp} (h : Same F H) {p : Addr} (hp : H p = none) : F p = none := by
  cases e : F p with
  | none => rfl
  | some o =>
    have z := h p o e
    rw [hp] at z; cases z
theorem Same.rfl' {F : Hp} : Same F F := fun _ _ h => h
theorem same_put {F : Hp} {p : Addr} {o : HO} (h : F p = none) : Same F (upd F p o) := fun b x e => by
  rw [upd_ne (ne_of_none e h)]
  exact e
theorem ObjR.mono {K : PySem.W.Frag} {F F' H H' : Hp} {p : Addr} {o : DO} (e : Same F F') (hp : ∀ u, H p = some u → H' p = some u) (h : ObjR K F H p o) : ObjR K F' H' p o := by
  cases o with
  | lst ds => obtain ⟨vs, a, b, c⟩ := h; exact ⟨vs, hp _ a, b.mono e, c⟩
  | dic ds => obtain ⟨vs, a, b⟩ := h; exact ⟨vs, hp _ a, b.mono e⟩
  | dit ds => obtain ⟨vs, a, b⟩ := h; exact ⟨vs, hp _ a, b.mono e⟩
  | ins c ds => obtain ⟨dx, vs, a, b⟩ := h; exact ⟨dx, vs, hp _ a, b.mono e⟩
  | st => exact h
theorem ObjR.some {K : PySem.W.Frag} {F H : Hp} {p : Addr} {o : DO} (h : ObjR K F H p o) : ∃ u, H p = some u := by
  cases o with
  | lst ds => obtain ⟨vs, a, b⟩ := h; exact ⟨_, a⟩
  | dic ds => obtain ⟨vs, a, b⟩ := h; exact ⟨_, a⟩
  | dit ds => obtain ⟨vs, a, b⟩ := h; exact ⟨_, a⟩
  | ins c ds => obtain ⟨dx, vs, a, b⟩ := h; exact ⟨_, a⟩
  | st => exact h.elim
section
variable {K : PySem.W.Frag} {Z F H : Hp} {m : Mu} {p : Addr}
/-- a new thing, frozen at once -/
theorem Wf.new (w : Wf K Z F H m) (hp : H p = none) (o : HO) : Wf K Z (upd F p o) (upd H p o) m ∧ Ext Z F (upd F p o) := by
  have hf : F p = none := sub_none w.sf hp
  have hz : Z p = none := sub_none w.sz hp
  refine ⟨⟨fun b u e => ?_, fun b u e => ?_, fun q u e => ?_⟩, same_put hf, fun b u e => ?_⟩
  · by_cases hb : b = p
    · subst hb; rw [upd_same] at e ⊢; exact e
    · rw [upd_ne hb] at e ⊢; exact w.sf b u e
  · have hb : b ≠ p := ne_of_none e hz
    rw [upd_ne hb]; exact w.sz b u e
  · obtain ⟨a1, a2, a3⟩ := w.ob q u e
    obtain ⟨x, hx⟩ := a3.some
    have hq : q ≠ p := ne_of_none hx hp
    exact ⟨by rw [upd_ne hq]; exact a1, a2, a3.mono (same_put hf) fun u hu => by rw [upd_ne hq]; exact hu⟩
  · by_cases hb : b = p
    · subst hb; exact .inr hz
    · rw [upd_ne hb] at e; exact .inl e
/-- a new thing that may change -/
theorem Wf.own (w : Wf K Z F H m) (hp : H p = none) {o : HO} {u : DO} (r : ObjR K F (upd H p o) p u) : Wf K Z F (upd H p o) (m.put p u) ∧ m p = none := by
  have hf : F p = none := sub_none w.sf hp
  have hz : Z p = none := sub_none w.sz hp
  refine ⟨⟨fun b u e => ?_, fun b u e => ?_, fun q v e => ?_⟩, ?_⟩
  · have hb : b ≠ p := ne_of_none e hf
    rw [upd_ne hb]; exact w.sf b u e
  · have hb : b ≠ p := ne_of_none e hz
    rw [upd_ne hb]; exact w.sz b u e
  · unfold Mu.put at e
    by_cases hq : q = p
    · subst hq
      rw [if_pos rfl] at e
      cases e
      exact ⟨hf, hz, r⟩
    · rw [if_neg hq] at e
      obtain ⟨a1, a2, a3⟩ := w.ob q v e
      exact ⟨a1, a2, a3.mono (fun _ _ h => h) fun u hu => by rw [upd_ne hq]; exact hu⟩
  · cases e : m p with
    | none => rfl
    | some o =>
      obtain ⟨x, hx⟩ := (w.ob p o e).2.2.some
      rw [hp] at hx; cases hx
/-- what may change is changed -/
theorem Wf.set (w : Wf K Z F H m) {o : HO} {u u0 : DO} (h0 : m p = some u0) (r : ObjR K F (upd H p o) p u) : Wf K Z F (upd H p o) (m.put p u) := by
  obtain ⟨hf, hz, _⟩ := w.ob p u0 h0
  refine ⟨fun b u e => ?_, fun b u e => ?_, fun q v e => ?_⟩
  · have hb : b ≠ p := ne_of_none e hf
    rw [upd_ne hb]; exact w.sf b u e
  · have hb : b ≠ p := ne_of_none e hz
    rw [upd_ne hb]; exact w.sz b u e
  · unfold Mu.put at e
    by_cases hq : q = p
    · subst hq
      rw [if_pos rfl] at e
      cases e
      exact ⟨hf, hz, r⟩
    · rw [if_neg hq] at e
      obtain ⟨a1, a2, a3⟩ := w.ob q v e
      exact ⟨a1, a2, a3.mono (fun _ _ h => h) fun u hu => by rw [upd_ne hq]; exact hu⟩
end
/-- the slots hold the data -/
structure Slots (K : PySem.W.Frag) (F : Hp) (σ : L2.St) (r : Env) : Prop where
  len : σ.length = r.length
  at_ : ∀ (i : Nat) (d : DV), r[i]? = some (some d) → ∃ v, σ[i]? = some (some v) ∧ RelD K F v d
theorem Slots.mono {K : PySem.W.Frag} {F F' : Hp} {σ : L2.St} {r : Env} (e : Same F F') (h : Slots K F σ r) : Slots K F' σ r :=
  ⟨h.len, fun i d q => let ⟨v, a, b⟩ := h.at_ i d q; ⟨v, a, b.mono e⟩⟩
theorem Slots.set {K : PySem.W.Frag} {F : Hp} {σ : L2.St} {r : Env} {v : V} {d : DV} (h : Slots K F σ r) (i : Nat) (e : RelD K F v d) : Slots K F (σ.set i (some v)) (r.set i (some d)) := by
  refine ⟨by rw [List.length_set, List.length_set]; exact h.len, fun j d' q => ?_⟩
  by_cases hj : i = j
  · subst hj
    by_cases hi : i < r.length
    · rw [List.getElem?_set_self hi] at q
      cases q
      exact ⟨v, by rw [List.getElem?_set_self (by rw [h.len]; exact hi)], e⟩
    · rw [List.getElem?_eq_none (by rw [List.length_set]; omega)] at q
      cases q
  · rw [List.getElem?_set_ne hj] at q
    obtain ⟨v', a, b⟩ := h.at_ j d' q
    exact ⟨v', by rw [List.getElem?_set_ne hj]; exact a, b⟩
theorem Slots.del {K : PySem.W.Frag} {F : Hp} {σ : L2.St} {r : Env} (h : Slots K F σ r) (i : Nat) : Slots K F (σ.set i none) (r.set i none) := by
  refine ⟨by rw [List.length_set, List.length_set]; exact h.len, fun j d' q => ?_⟩
  by_cases hj : i = j
  · subst hj
    by_cases hi : i < r.length
    · rw [List.getElem?_set_self hi] at q
      cases q
    · rw [List.getElem?_eq_none (by rw [List.length_set]; omega)] at q
      cases q
  · rw [List.getElem?_set_ne hj] at q
    obtain ⟨v', a, b⟩ := h.at_ j d' q
    exact ⟨v', by rw [List.getElem?_set_ne hj]; exact a, b⟩
end DL

set_option Elab.async false
set_option linter.all false
set_option maxRecDepth 100000
set_option maxHeartbeats 2000000
namespace DL
open PySem L2
/-- an error in the air: its class, its own dict -/
def ExcR (K : PySem.W.Frag) (fld : Addr → PySem.Str) (Z F H : Hp) (m : Mu) (x : Exc) (cls : Value) (d : Option Addr) : Prop :=
  cls = .ref x.cls ∧ ∃ dx v, d = some dx ∧ H dx = some (.xd [(fld x.cls, v)]) ∧ F dx = none ∧ Z dx = none ∧ m dx = none ∧ RelD K F v x.arg
/-- what is read off the text: the slots' names, the defs' names by number, constants of the module -/
structure Cfg where
  N : List PySem.Str
  fns : List (PySem.Str × List PySem.Str)
  gls : List (PySem.Str × DV)
/-- a def's promise, lifted -/
def Rels (K : PySem.W.Frag) (F : Hp) : List V → List DV → Prop := RelDs K F
def spG (K : PySem.W.Frag) (fld : Addr → PySem.Str) (s : FSp) : Sp := fun vs H Q E => ∃ ds m Z F Qd Ed, Wf K Z F H m ∧ RelDs K F vs ds ∧ s ds m Qd Ed ∧
  (∀ d m' v H' F', Qd d m' → Ext Z F F' → Wf K Z F' H' m' → RelD K F' v d → Q v H') ∧
  (∀ x m' H' F' cls dd, Ed x m' → Ext Z F F' → Wf K Z F' H' m' → ExcR K fld Z F' H' m' x cls dd → E cls dd H')
def spP (K : PySem.W.Frag) (fld : Addr → PySem.Str) (s : PSp) : Sp := fun vs H Q E => ∃ ds F Qd Ed, Sub F H ∧ RelDs K F vs ds ∧ s ds Qd Ed ∧
  (∀ d v H' F', Qd d → Ext H F F' → Sub F' H' → Sub H H' → RelD K F' v d → Q v H') ∧
  (∀ x H' F' cls dd, Ed x → Ext H F F' → Sub F' H' → Sub H H' → ExcR K fld H F' H' Mu.nil x cls dd → E cls dd H')
def spOf (K : PySem.W.Frag) (fld : Addr → PySem.Str) : Fn → Sp
  | .pure s => spP K fld s
  | .gen s => spG K fld s
def bltName : Blt → PySem.Str
  | .len => "len" | .abs => "abs" | .int => "int" | .list => "list" | .tuple => "tuple" | .sorted => "sorted" | .any => "any" | .all => "all" | .sum => "sum" | .max2 => "max" | .min2 => "min" | .str => "str"
def bltNames : List PySem.Str := ["len", "abs", "int", "list", "tuple", "sorted", "any", "all", "sum", "max", "min", "str", "range", "enumerate", "zip", "isinstance", "bool", "dict", "reversed", "repr"]
/-- a def by its name; called by place, or by keywords in the order told -/
def FnEx (P : Program) (w : World) (K : PySem.W.Frag) (mg : PySem.Str → Option Value) (base : Heap) (fld : Addr → PySem.Str) (k : Nat) (x : PySem.Str × List PySem.Str) (f : Fn) : Prop :=
  ∃ a fd ps sp, mg x.1 = some (.ref a) ∧ PySem.W.keepIn K (.ref a) = true ∧ FnOk P w K mg base (L2.CX P w) k a fd ps sp ∧
    ((x.2 = [] ∧ sp = spOf K fld f ∧ Binds K fd ps []) ∨
      (x.2 ≠ [] ∧ ∃ g gV, KBn K fd ps 0 x.2 g gV ∧ ∀ vs H Q E, spOf K fld f vs H Q E → vs.length = x.2.length ∧ sp (gV [] vs) H Q E))
/-- one def in the table -/
structure FnAt (X : Cx) (fld : Addr → PySem.Str) (k : Nat) (x : PySem.Str × List PySem.Str) (f : Fn) : Prop where
  ex : FnEx X.prog X.w X.K X.mg X.base fld k x f
/-- where one stands -/
structure Gk (X : Cx) (c : Cfg) (G : Nat → Option Fn) (fld : Addr → PySem.Str) (k : Nat) : Prop where
  N : X.N = c.N
  nd : X.N.Nodup
  calm : X.calm = true
  room : Room k X.A
  fns : ∀ f x g, c.fns[f]? = some x → G f = some g → FnAt X fld k x g
  blt : ∀ x ∈ bltNames, X.mg x = none
section
variable (K : PySem.W.Frag) (G : Nat → Option Fn) (fld : Addr → PySem.Str)
/-- the wish of an error, lifted -/
def XOk (W : WX) (Z F : Hp) (σ : L2.St) (Ed : XPost) : Prop :=
  ∀ x m' H' F' cls dd, Ed x m' → Ext Z F F' → Wf K Z F' H' m' → ExcR K fld Z F' H' m' x cls dd → W cls dd σ H'
/-- readings that are lifted from what the small language says -/
def lift {α : Type} (W : WX) (rd : Env → Mu → (α → Mu → Prop) → XPost → Prop) (post : Hp → Hp → Mu → α → β → Prop) : L2.St → Hp → (β → Hp → Prop) → Prop := fun σ H Q =>
  ∃ r m Z F Qd Ed, Wf K Z F H m ∧ Slots K F σ r ∧ rd r m Qd Ed ∧
    (∀ d m' v H' F', Qd d m' → Ext Z F F' → Wf K Z F' H' m' → post F' H' m' d v → Q v H') ∧ XOk K fld W Z F σ Ed
def tL (W : WX) (e : Ex) : TE := lift K fld W (rdE G e) fun F' _ _ d v => RelD K F' v d
def tLT (W : WX) (e : Ts) : TT := lift K fld W (rdT G e) fun _ _ _ d v => v = d
def tLO (W : WX) (e : Ox) : TO := lift K fld W (rdO G e) fun _ _ _ d v => v = d
def tLA (W : WX) (e : Exs) : TA := lift K fld W (rdA G e) fun F' _ _ d v => RelDs K F' v d
def tLI (W : WX) (e : Its) : TA := lift K fld W (rdI G e) fun F' _ _ d v => RelDs K F' v d
end
theorem XOk.ext {K : PySem.W.Frag} {fld : Addr → PySem.Str} {W : WX} {Z F F1 : Hp} {σ : L2.St} {Ed : XPost} (h : XOk K fld W Z F σ Ed) (e : Ext Z F F1) : XOk K fld W Z F1 σ Ed :=
  fun x m' H' F' cls dd a b c d => h x m' H' F' cls dd a (e.trans b) c d
/-! ### weakening -/
section
variable {X : Cx}
theorem PEimp {e : Expr} {t t' : TE} (h : PE X e t) (i : ∀ σ H Q, t' σ H Q → t σ H Q) : PE X e t' := ⟨fun pins s σ H Q I q => h.run pins s σ H Q I (i σ H Q q)⟩
theorem PTimp {e : Expr} {t t' : TT} (h : PT X e t) (i : ∀ σ H Q, t' σ H Q → t σ H Q) : PT X e t' := ⟨fun pins s σ H Q I q => h.run pins s σ H Q I (i σ H Q q)⟩
theorem PWimp {e : Expr} {t t' : TT} (h : PW X e t) (i : ∀ σ H Q, t' σ H Q → t σ H Q) : PW X e t' := ⟨fun wh pins s σ H Q I q => h.run wh pins s σ H Q I (i σ H Q q)⟩
theorem PAimp {e : List Expr} {t t' : TA} (h : PA X e t) (i : ∀ σ H Q, t' σ H Q → t σ H Q) : PA X e t' := ⟨fun p pins s σ H Q I q => h.run p pins s σ H Q I (i σ H Q q)⟩
theorem POimp {e : Option Expr} {t t' : TO} (h : PO X e t) (i : ∀ σ H Q, t' σ H Q → t σ H Q) : PO X e t' := ⟨fun pins s σ H Q I q => h.run pins s σ H Q I (i σ H Q q)⟩
end
/-! ### what stands behind a value -/
section
variable {K : PySem.W.Frag} {Z F H : Hp} {m : Mu} {v : V} {d : DV}
theorem Wf.lst (w : Wf K Z F H m) (r : RelD K F v d) {ds : List DV} (h : look m d = .lst ds) : ∃ a vs, v = .ref a ∧ H a = some (.lst vs) ∧ RelDs K F vs ds ∧ vs.length ≤ LINE := by
  cases r with
  | lst hf rs hl =>
    cases h
    refine ⟨_, _, rfl, ?_, rs, hl⟩
    exact w.sf _ _ hf
  | loc a =>
    unfold look at h
    simp only at h
    split at h <;> try cases h
    rename_i e
    obtain ⟨_, _, vs, h1, h2, h3⟩ := w.ob _ _ e
    exact ⟨_, vs, rfl, h1, h2, h3⟩
  | _ => cases h
theorem Wf.tup (w : Wf K Z F H m) (r : RelD K F v d) {ds : List DV} (h : look m d = .tup ds) : ∃ a vs, v = .ref a ∧ F a = some (.tup vs) ∧ H a = some (.tup vs) ∧ RelDs K F vs ds ∧ vs.length ≤ LINE := by
  cases r with
  | tup hf rs hl =>
    cases h
    refine ⟨_, _, rfl, hf, ?_, rs, hl⟩
    exact w.sf _ _ hf
  | loc a =>
    unfold look at h
    simp only at h
    split at h <;> cases h
  | _ => cases h
theorem Wf.scr (w : Wf K Z F H m) (r : RelD K F v d) {ns : List Int} (h : look m d = .scr ns) : ∃ a, v = .ref a ∧ SqL K H a (ns.map V.int) ∧ ns.length ≤ LINE := by
  cases r with
  | scr hf hl => cases h; exact ⟨_, rfl, Same.seq w.sf hf, hl⟩
  | loc a =>
    unfold look at h
    simp only at h
    split at h <;> cases h
  | _ => cases h
theorem Wf.str (r : RelD K F v d) {s : S} (h : look m d = .str s) : ∃ x : PySem.Str, v = .str x ∧ x.cps.toList = s ∧ ∀ c ∈ s, c < 0x110000 := by
  cases r with
  | str x hx => cases h; exact ⟨x, rfl, rfl, hx⟩
  | loc a =>
    unfold look at h
    simp only at h
    split at h <;> cases h
  | _ => cases h
theorem Wf.int (r : RelD K F v d) {i : Int} (h : look m d = .int i) : v = .int i := by
  cases r with
  | int j => cases h; rfl
  | loc a =>
    unfold look at h
    simp only at h
    split at h <;> cases h
  | _ => cases h
theorem Wf.bl (r : RelD K F v d) {i : Bool} (h : look m d = .bl i) : v = .bl i := by
  cases r with
  | bl j => cases h; rfl
  | loc a =>
    unfold look at h
    simp only at h
    split at h <;> cases h
  | _ => cases h
theorem Wf.non (r : RelD K F v d) (h : look m d = .non) : v = .non := by
  cases r with
  | non => rfl
  | loc a =>
    unfold look at h
    simp only at h
    split at h <;> cases h
  | _ => cases h
end
/-! ### equality -/
mutual
def toPy : DV → PyData
  | .non => .none
  | .bl b => .bool b
  | .int i => .int i
  | .str s => .str ⟨s.toArray⟩
  | .tup xs => .tuple (toPys xs)
  | .lst xs => .list (toPys xs)
  | _ => .none
def toPys : List DV → List PyData
  | [] => []
  | x :: r => toPy x :: toPys r
end
theorem str_eta (x : PySem.Str) : (⟨x.cps.toList.toArray⟩ : PySem.Str) = x := by cases x; simp
theorem str_beq (a b : S) : ((⟨a.toArray⟩ : PySem.Str) == ⟨b.toArray⟩) = (a == b) := by
  by_cases h : a = b
  · subst h; simp
  · have h1 : ¬ (⟨a.toArray⟩ : PySem.Str) = ⟨b.toArray⟩ := fun e => h (by injection e with e; simpa using congrArg Array.toList e)
    rw [beq_eq_false_iff_ne.mpr h1, beq_eq_false_iff_ne.mpr h]
mutual
theorem eqv_py : ∀ (a b : DV), plain a = true → plain b = true → PyData.eqv (toPy a) (toPy b) = eqv a b
  | .non, b, _, hb => by cases b <;> simp_all [toPy, PyData.eqv, eqv, plain]
  | .bl x, b, _, hb => by cases b <;> simp_all [toPy, PyData.eqv, eqv, plain]
  | .int x, b, _, hb => by cases b <;> simp_all [toPy, PyData.eqv, eqv, plain]
  | .str x, b, _, hb => by
    cases b <;> simp_all [toPy, PyData.eqv, eqv, plain]
    exact str_beq _ _
  | .tup x, b, ha, hb => by
    cases b <;> simp_all [toPy, PyData.eqv, eqv, plain]
    exact eqvs_py _ _ ha hb
  | .lst x, b, ha, hb => by
    cases b <;> simp_all [toPy, PyData.eqv, eqv, plain]
    exact eqvs_py _ _ ha hb
  | .dic _, _, ha, _ => by simp [plain] at ha
  | .dit _, _, ha, _ => by simp [plain] at ha
  | .ins _ _, _, ha, _ => by simp [plain] at ha
  | .loc _, _, ha, _ => by simp [plain] at ha
  | .scr _, _, ha, _ => by simp [plain] at ha
theorem eqvs_py : ∀ (a b : List DV), plains a = true → plains b = true → PyData.eqvAll (toPys a) (toPys b) = eqvs a b
  | [], [], _, _ => by simp [toPys, PyData.eqvAll, eqvs]
  | [], _ :: _, _, _ => by simp [toPys, PyData.eqvAll, eqvs]
  | _ :: _, [], _, _ => by simp [toPys, PyData.eqvAll, eqvs]
  | x :: r, y :: s, ha, hb => by
    simp only [plains, Bool.and_eq_true] at ha hb
    simp only [toPys, PyData.eqvAll, eqvs]
    rw [eqv_py x y ha.1 hb.1, eqvs_py r s ha.2 hb.2]
end
mutual
theorem depth_py : ∀ a : DV, plain a = true → (toPy a).depth = depth a
  | .non, _ => by simp [toPy, PyData.depth, depth]
  | .bl x, _ => by simp [toPy, PyData.depth, depth]
  | .int x, _ => by simp [toPy, PyData.depth, depth]
  | .str x, _ => by simp [toPy, PyData.depth, depth]
  | .tup x, ha => by
    simp only [toPy, PyData.depth, depth]
    rw [depths_py x (by simpa [plain] using ha)]
  | .lst x, ha => by
    simp only [toPy, PyData.depth, depth]
    rw [depths_py x (by simpa [plain] using ha)]
  | .dic _, ha => by simp [plain] at ha
  | .dit _, ha => by simp [plain] at ha
  | .ins _ _, ha => by simp [plain] at ha
  | .loc _, ha => by simp [plain] at ha
  | .scr _, ha => by simp [plain] at ha
theorem depths_py : ∀ a : List DV, plains a = true → PyData.depthAll (toPys a) = depths a
  | [], _ => by simp [toPys, PyData.depthAll, depths]
  | x :: r, ha => by
    simp only [plains, Bool.and_eq_true] at ha
    simp only [toPys, PyData.depthAll, depths]
    rw [depth_py x ha.1, depths_py r ha.2]
end
section
variable {K : PySem.W.Frag} {F H : Hp}
theorem strOk_of {x : PySem.Str} (h : ∀ c ∈ x.cps.toList, c < 0x110000) : PyData.strOk x = true := by
  unfold PyData.strOk
  rw [← Array.all_toList]
  exact List.all_eq_true.mpr fun c hc => decide_eq_true (h c hc)
mutual
theorem RelD.dp (w : Sub F H) : ∀ {v : V} {d : DV}, RelD K F v d → plain d = true → Dp K H v (toPy d) ∧ (toPy d).canLay0 = true
  | _, _, .non, _ => ⟨.non, rfl⟩
  | _, _, .bl b, _ => ⟨.bl b, rfl⟩
  | _, _, .int i, _ => ⟨.int i, rfl⟩
  | _, _, .str x hx, _ => by
    simp only [toPy]
    rw [str_eta]
    refine ⟨.str x, ?_⟩
    simp only [PyData.canLay0]
    exact strOk_of hx
  | _, _, .tup h r _, p => by
    simp only [toPy, PyData.canLay0]
    obtain ⟨a, b⟩ := RelDs.dp w r (by simpa [plain] using p)
    refine ⟨.tup (SqT.of ?_) a, b⟩
    exact w _ _ h
  | _, _, .lst h r _, p => by
    simp only [toPy, PyData.canLay0]
    obtain ⟨a, b⟩ := RelDs.dp w r (by simpa [plain] using p)
    refine ⟨.lst (SqL.of ?_) a, b⟩
    exact w _ _ h
  | _, _, .dic _ _, p => by simp [plain] at p
  | _, _, .dit _ _, p => by simp [plain] at p
  | _, _, .ins _ _, p => by simp [plain] at p
  | _, _, .loc _, p => by simp [plain] at p
  | _, _, .scr _ _, p => by simp [plain] at p
theorem RelDs.dp (w : Sub F H) : ∀ {v : List V} {d : List DV}, RelDs K F v d → plains d = true → DpAll K H v (toPys d) ∧ PyData.canLayAll0 (toPys d) = true
  | _, _, .nil, _ => ⟨.nil, rfl⟩
  | _, _, .cons a b, p => by
    simp only [plains, Bool.and_eq_true] at p
    obtain ⟨x1, x2⟩ := RelD.dp w a p.1
    obtain ⟨y1, y2⟩ := RelDs.dp w b p.2
    refine ⟨.cons x1 y1, ?_⟩
    simp only [toPys, PyData.canLayAll0, x2, y2, Bool.and_self]
end
variable {Z : Hp} {m : Mu}
theorem Wf.dp (w : Wf K Z F H m) {v : V} {d : DV} (r : RelD K F v d) (p : plain (look m d) = true) : Dp K H v (toPy (look m d)) ∧ (toPy (look m d)).canLay0 = true := by
  have key : ∀ d : DV, (∀ a, d ≠ .loc a) → look m d = d := fun d h => by
    cases d <;> first | rfl | exact absurd rfl (h _)
  cases r with
  | loc a =>
    cases e : look m (.loc a) with
    | lst ds =>
      rw [e] at p
      obtain ⟨b, vs, h0, h1, h2, _⟩ := w.lst (.loc a) e
      cases h0
      obtain ⟨x, y⟩ := h2.dp w.sf (by simpa [plain] using p)
      simp only [toPy, PyData.canLay0]
      exact ⟨.lst (SqL.of h1) x, y⟩
    | _ => exact absurd p (by
        unfold look at e
        simp only at e
        split at e <;> (first | (cases e; done) | (simp only [look]; simp [*, plain])))
  | non => exact RelD.dp w.sf .non p
  | bl b => exact RelD.dp w.sf (.bl b) p
  | int b => exact RelD.dp w.sf (.int b) p
  | str b hb => exact RelD.dp w.sf (.str b hb) p
  | tup a b c => exact RelD.dp w.sf (.tup a b c) p
  | lst a b c => exact RelD.dp w.sf (.lst a b c) p
  | dic a b => exact RelD.dp w.sf (.dic a b) p
  | dit a b => exact RelD.dp w.sf (.dit a b) p
  | ins a b => exact RelD.dp w.sf (.ins a b) p
  | scr a b => exact RelD.dp w.sf (.scr a b) p
end
end DL

set_option Elab.async false
set_option linter.all false
set_option maxRecDepth 100000
set_option maxHeartbeats 2000000
namespace DL
open PySem L2
section
variable {X : Cx}
/-! ### operators on values -/
def rInT (K : PySem.W.Frag) : R2 := fun x y H Q => ∃ d ds, Dp K H x d ∧ Dp K H y (.tuple ds) ∧ SeqAt.shaped d = true ∧ SeqAt.shaped (.tuple ds) = true ∧ Q (.bl (ds.any fun z => PyData.eqv z d)) H
def rNotInT (K : PySem.W.Frag) : R2 := fun x y H Q => ∃ d ds, Dp K H x d ∧ Dp K H y (.tuple ds) ∧ SeqAt.shaped d = true ∧ SeqAt.shaped (.tuple ds) = true ∧ Q (.bl (!ds.any fun z => PyData.eqv z d)) H
theorem op_inT (hu : X.A.units + 65 < cLine) : OpR X (compareOp .In) (rInT X.K) := by
  intro pins s σ H x y v u Q I rx ry h
  obtain ⟨d, ds, hd, he, sd, se, q⟩ := h
  obtain ⟨as, r1⟩ := Dp.reads I d x v hd rx
  obtain ⟨bs, r2⟩ := Dp.reads I (.tuple ds) y u he ry
  exact SeqAt.in_tuple_reads r2 r1 (SeqAt.canLay_of_shaped se) (SeqAt.canLay_of_shaped sd) (PyProof.Rows.room_in_shaped sd hu) ⟨.bl _, H, I, rfl, q⟩
theorem op_notInT (hu : X.A.units + 65 < cLine) : OpR X (compareOp .NotIn) (rNotInT X.K) := by
  intro pins s σ H x y v u Q I rx ry h
  obtain ⟨d, ds, hd, he, sd, se, q⟩ := h
  obtain ⟨as, r1⟩ := Dp.reads I d x v hd rx
  obtain ⟨bs, r2⟩ := Dp.reads I (.tuple ds) y u he ry
  exact SeqAt.notIn_tuple_reads r2 r1 (SeqAt.canLay_of_shaped se) (SeqAt.canLay_of_shaped sd) (PyProof.Rows.room_in_shaped sd hu) ⟨.bl _, H, I, rfl, q⟩
def bopP : BOp → Operator
  | .add => .Add | .sub => .Sub | .mul => .Mult | .fdiv => .FloorDiv | .mod => .Mod | .pow => .Pow
def rStrAdd : R2 := fun x y H Q => ∃ i j : PySem.Str, x = .str i ∧ y = .str j ∧ i.length + j.length ≤ sizeLine ∧ Q (.str (i ++ j)) H
def rBin (K : PySem.W.Frag) : BOp → R2
  | .add => fun x y H Q => rI0 (fun i j => .int (i + j)) x y H Q ∨ (rStrAdd x y H Q ∨ (rCatA K x y H Q ∨ rCat x y H Q))
  | .sub => rI0 fun i j => .int (i - j)
  | .mul => fun x y H Q => rI CMul (fun i j => .int (i * j)) x y H Q ∨ (rI CMulW (fun i j => .int (i * j)) x y H Q ∨ rRep x y H Q)
  | .fdiv => fun x y H Q => rI CDivN (fun i j => .int (i.fdiv j)) x y H Q ∨ rI CDivW (fun i j => .int (i / j)) x y H Q
  | .mod => rI (fun _ j => j ≠ 0) fun i j => .int (i.fmod j)
  | .pow => rI CPow fun i j => .int (i ^ j.toNat)
theorem op_bin : ∀ op, OpR X (binaryOp (bopP op)) (rBin X.K op)
  | .add => op_add.or (OpR.or op_add_str (OpR.or op_catA op_cat))
  | .sub => op_sub
  | .mul => op_mul.or (op_mulW.or op_rep)
  | .fdiv => op_fdivN.or op_fdivW
  | .mod => op_modN
  | .pow => op_pow
theorem LINE_eq : LINE = sizeLine := sizeLine_eq.symm
section
variable {K : PySem.W.Frag} {Z F H : Hp} {m : Mu}
theorem catS {a b : PySem.Str} : (a ++ b).cps.toList = a.cps.toList ++ b.cps.toList := by
  show (a.cps ++ b.cps).toList = _
  simp
theorem lenS (a : PySem.Str) : a.length = a.cps.toList.length := by
  show a.cps.size = _
  simp
theorem bin_ok {op : BOp} {x y : V} {dx dy : DV} {k : DV → Prop} {Q : VK} (w : Wf K Z F H m) (rx : RelD K F x dx) (ry : RelD K F y dy) (h : binD op (look m dx) (look m dy) k)
    (q : ∀ d v H' F', k d → Ext Z F F' → Wf K Z F' H' m → RelD K F' v d → Q v H') : rBin K op x y H Q := by
  unfold binD at h
  split at h
  · rename_i e1 e2
    exact .inl ⟨_, _, Wf.int rx e1, Wf.int ry e2, q _ _ _ _ h (Ext.refl Z F) w (.int _)⟩
  · rename_i s t e1 e2
    obtain ⟨a, rfl, ea, ca⟩ := Wf.str rx e1
    obtain ⟨b, rfl, eb, cb⟩ := Wf.str ry e2
    refine .inr (.inl ⟨a, b, rfl, rfl, ?_, q _ _ _ _ h.2 (Ext.refl Z F) w ?_⟩)
    · rw [lenS, lenS, ea, eb, ← LINE_eq]; exact h.1
    · have : RelD K F (.str (a ++ b)) (.str (a ++ b).cps.toList) := .str _ (by
        rw [catS, ea, eb]
        intro c hc
        rcases List.mem_append.mp hc with z | z
        · exact ca c z
        · exact cb c z)
      rw [catS, ea, eb] at this
      exact this
  · rename_i s t e1 e2
    obtain ⟨a, xs, rfl, fa, ha, ra, la⟩ := w.tup rx e1
    obtain ⟨b, ys, rfl, fb, hb, rb, lb⟩ := w.tup ry e2
    have l1 := ra.length
    have l2 := rb.length
    refine .inr (.inr (.inl ⟨a, b, xs, ys, rfl, rfl, SqT.of ha, SqT.of hb, by rw [l1, l2, ← LINE_eq]; exact h.1, fun e => ?_, fun _ e => ?_, fun _ _ p hp => ?_⟩))
    · subst e
      cases ra
      exact q _ _ _ _ h.2 (Ext.refl Z F) w (.tup fb rb lb)
    · subst e
      cases rb
      have h2 := h.2
      rw [List.append_nil] at h2
      exact q _ _ _ _ h2 (Ext.refl Z F) w (.tup fa ra la)
    · obtain ⟨w', e'⟩ := w.new hp (.tup (xs ++ ys))
      exact q _ _ _ _ h.2 e' w' (.tup upd_same ((ra.append rb).mono e'.sm) (by rw [List.length_append, l1, l2]; exact h.1))
  · rename_i s t e1 e2
    obtain ⟨a, xs, rfl, ha, ra, la⟩ := w.lst rx e1
    obtain ⟨b, ys, rfl, hb, rb, lb⟩ := w.lst ry e2
    have l1 := ra.length
    have l2 := rb.length
    refine .inr (.inr (.inr ⟨a, b, xs, ys, rfl, rfl, ha, hb, by rw [l1, l2, ← LINE_eq]; exact h.1, fun p hp => ?_⟩))
    obtain ⟨w', e'⟩ := w.new hp (.lst (xs ++ ys))
    exact q _ _ _ _ h.2 e' w' (.lst upd_same ((ra.append rb).mono e'.sm) (by rw [List.length_append, l1, l2]; exact h.1))
  · rename_i e1 e2
    exact ⟨_, _, Wf.int rx e1, Wf.int ry e2, q _ _ _ _ h (Ext.refl Z F) w (.int _)⟩
  · rename_i i j e1 e2
    obtain ⟨h1 | h1, h2⟩ := h
    · exact .inl ⟨_, _, Wf.int rx e1, Wf.int ry e2, h1, q _ _ _ _ h2 (Ext.refl Z F) w (.int _)⟩
    · exact .inr (.inl ⟨_, _, Wf.int rx e1, Wf.int ry e2, wide_mul h1.1 h1.2 (by decide) (by decide) (by decide), q _ _ _ _ h2 (Ext.refl Z F) w (.int _)⟩)
  · rename_i s j e1 e2
    obtain ⟨a, xs, rfl, ha, ra, la⟩ := w.lst rx e1
    obtain ⟨⟨h1, h2, h3⟩, h4⟩ := h
    have l1 := ra.length
    have hz : xs.length * j.toNat ≤ LINE := by
      have : j.toNat ≤ 1000 := by omega
      calc xs.length * j.toNat ≤ 1000 * 1000 := Nat.mul_le_mul (by omega) this
        _ ≤ LINE := by decide
    refine .inr (.inr ⟨a, j, xs, rfl, Wf.int ry e2, ha, by omega, by omega, by rw [← LINE_eq]; exact hz, fun p hp => ?_⟩)
    obtain ⟨w', e'⟩ := w.new hp (.lst (List.replicate j.toNat xs).flatten)
    have rr : ∀ n, RelDs K F (List.replicate n xs).flatten (List.replicate n s).flatten := fun n => by
      induction n with
      | zero => exact .nil
      | succ n ih =>
        rw [List.replicate_succ, List.replicate_succ, List.flatten_cons, List.flatten_cons]
        exact ra.append ih
    refine q _ _ _ _ h4 e' w' (.lst upd_same ((rr _).mono e'.sm) ?_)
    rw [List.length_flatten, List.map_replicate, List.sum_replicate_nat, Nat.mul_comm]
    exact hz
  · rename_i i j e1 e2
    obtain ⟨h1 | h1, h2⟩ := h
    · exact .inl ⟨_, _, Wf.int rx e1, Wf.int ry e2, h1, q _ _ _ _ h2 (Ext.refl Z F) w (.int _)⟩
    · refine .inr ⟨_, _, Wf.int rx e1, Wf.int ry e2, wide_div h1.1 h1.2 (by decide) (by decide), ?_⟩
      have e : i / j = i.fdiv j := (Int.fdiv_eq_ediv_of_nonneg i (Int.le_of_lt h1.1)).symm
      show Q (.int (i / j)) H
      rw [e]
      exact q _ _ _ _ h2 (Ext.refl Z F) w (.int _)
  · rename_i i j e1 e2
    exact ⟨_, _, Wf.int rx e1, Wf.int ry e2, h.1, q _ _ _ _ h.2 (Ext.refl Z F) w (.int _)⟩
  · rename_i i j e1 e2
    exact ⟨_, _, Wf.int rx e1, Wf.int ry e2, ⟨h.1.1, by have := h.1.2.1; omega, h.1.2.2⟩, q _ _ _ _ h.2 (Ext.refl Z F) w (.int _)⟩
  · exact h.elim
/-! comparisons -/
def copP : COp → CmpOp
  | .eq => .Eq | .ne => .NotEq | .lt => .Lt | .le => .LtE | .gt => .Gt | .ge => .GtE | .isin => .In | .notin => .NotIn | .isN => .Is | .notN => .IsNot
def rCmp (K : PySem.W.Frag) : COp → R2
  | .eq => rEqD K
  | .ne => rNeD K
  | .lt => fun x y H Q => rI0 (fun i j => .bl (decide (i < j))) x y H Q ∨ (∃ i j : PySem.Str, x = .str i ∧ y = .str j ∧ Q (.bl (decide (i.cps.toList < j.cps.toList))) H)
  | .le => rI0 fun i j => .bl (decide (i ≤ j))
  | .gt => rI0 fun i j => .bl (decide (j < i))
  | .ge => rI0 fun i j => .bl (decide (j ≤ i))
  | .isin => fun x y H Q => rInD K x y H Q ∨ (rInT K x y H Q ∨ (∃ (c : Nat) (z : PySem.Str), x = .str ⟨#[c]⟩ ∧ y = .str z ∧ Q (.bl (decide (c ∈ z.cps.toList))) H))
  | .notin => fun x y H Q => rNotInD K x y H Q ∨ (rNotInT K x y H Q ∨ (∃ (c : Nat) (z : PySem.Str), x = .str ⟨#[c]⟩ ∧ y = .str z ∧ Q (.bl (!decide (c ∈ z.cps.toList))) H))
  | .isN => fun x y H Q => y = .non ∧ Q (.bl (decide (x = .non))) H
  | .notN => fun x y H Q => y = .non ∧ Q (.bl (!decide (x = .non))) H
theorem op_cmp {k : Nat} (hr : Room k X.A) : ∀ op, OpR X (compareOp (copP op)) (rCmp X.K op)
  | .eq => op_eqD hr.units
  | .ne => op_neD hr.units
  | .lt => op_lt.or op_lt_str
  | .le => op_le
  | .gt => op_gt
  | .ge => op_ge
  | .isin => (op_inD (by have := hr.un; omega)).or ((op_inT (by have := hr.un; omega)).or op_in_sign)
  | .notin => (op_notInD (by have := hr.un; omega)).or ((op_notInT (by have := hr.un; omega)).or op_notIn_sign)
  | .isN => op_isN
  | .notN => op_notN
theorem shaped_of {d : DV} (c : (toPy d).canLay0 = true) (p : plain d = true) (h : depth d ≤ 60) : SeqAt.shaped (toPy d) = true := by
  unfold SeqAt.shaped
  rw [c, Bool.true_and]
  exact decide_eq_true (by rw [depth_py d p]; omega)
theorem any_py {d : DV} (p : plain d = true) : ∀ ds : List DV, plains ds = true → ((toPys ds).any fun z => PyData.eqv z (toPy d)) = ds.any fun z => eqv z d
  | [], _ => rfl
  | x :: r, h => by
    simp only [plains, Bool.and_eq_true] at h
    simp only [toPys, List.any_cons]
    rw [eqv_py x d h.1 p, any_py p r h.2]
theorem one_str {x : PySem.Str} {c : Nat} (h : x.cps.toList = [c]) : x = ⟨#[c]⟩ := by
  cases x with
  | mk a =>
    congr 1
    exact Array.toList_inj.mp h
theorem cmp_ok {op : COp} {x y : V} {dx dy : DV} {k : DV → Prop} {Q : VK} (w : Wf K Z F H m) (rx : RelD K F x dx) (ry : RelD K F y dy) (h : cmpD op (look m dx) (look m dy) k)
    (fin : ∀ b, k (.bl b) → Q (.bl b) H) : rCmp K op x y H Q := by
  have nonI : look m dx = .non ↔ x = .non := by
    constructor
    · exact fun e => Wf.non rx e
    · intro e; subst e; cases rx; rfl
  cases op with
  | eq =>
    obtain ⟨⟨p1, p2, d1, d2⟩, hk⟩ := h
    obtain ⟨a1, c1⟩ := w.dp rx p1
    obtain ⟨a2, c2⟩ := w.dp ry p2
    refine ⟨_, _, a1, a2, shaped_of c1 p1 d1, shaped_of c2 p2 d2, ?_⟩
    rw [eqv_py _ _ p1 p2]
    exact fin _ hk
  | ne =>
    obtain ⟨⟨p1, p2, d1, d2⟩, hk⟩ := h
    obtain ⟨a1, c1⟩ := w.dp rx p1
    obtain ⟨a2, c2⟩ := w.dp ry p2
    refine ⟨_, _, a1, a2, shaped_of c1 p1 d1, shaped_of c2 p2 d2, ?_⟩
    rw [eqv_py _ _ p1 p2]
    exact fin _ hk
  | lt =>
    simp only [cmpD] at h
    split at h
    · rename_i e1 e2
      exact .inl ⟨_, _, Wf.int rx e1, Wf.int ry e2, fin _ h⟩
    · rename_i e1 e2
      obtain ⟨a, rfl, ea, _⟩ := Wf.str rx e1
      obtain ⟨b, rfl, eb, _⟩ := Wf.str ry e2
      refine .inr ⟨_, _, rfl, rfl, ?_⟩
      rw [ea, eb]
      exact fin _ h
    · exact h.elim
  | le =>
    simp only [cmpD] at h
    split at h
    · rename_i e1 e2
      exact ⟨_, _, Wf.int rx e1, Wf.int ry e2, fin _ h⟩
    · exact h.elim
  | gt =>
    simp only [cmpD] at h
    split at h
    · rename_i e1 e2
      exact ⟨_, _, Wf.int rx e1, Wf.int ry e2, fin _ h⟩
    · exact h.elim
  | ge =>
    simp only [cmpD] at h
    split at h
    · rename_i e1 e2
      exact ⟨_, _, Wf.int rx e1, Wf.int ry e2, fin _ h⟩
    · exact h.elim
  | isin =>
    simp only [cmpD] at h
    split at h
    · rename_i ys e2
      obtain ⟨⟨p1, p2, d1, d2⟩, hk⟩ := h
      have p2' : plain (look m dy) = true := by rw [e2]; simpa [plain] using p2
      obtain ⟨a1, c1⟩ := w.dp rx p1
      obtain ⟨a2, c2⟩ := w.dp ry p2'
      rw [e2] at a2 c2 p2'
      refine .inl ⟨_, _, a1, by simpa only [toPy] using a2, shaped_of c1 p1 d1, by have := shaped_of c2 p2' (by simp only [depth]; omega); simpa only [toPy] using this, ?_⟩
      rw [any_py p1 ys p2]
      exact fin _ hk
    · rename_i ys e2
      obtain ⟨⟨p1, p2, d1, d2⟩, hk⟩ := h
      have p2' : plain (look m dy) = true := by rw [e2]; simpa [plain] using p2
      obtain ⟨a1, c1⟩ := w.dp rx p1
      obtain ⟨a2, c2⟩ := w.dp ry p2'
      rw [e2] at a2 c2 p2'
      refine .inr (.inl ⟨_, _, a1, by simpa only [toPy] using a2, shaped_of c1 p1 d1, by have := shaped_of c2 p2' (by simp only [depth]; omega); simpa only [toPy] using this, ?_⟩)
      rw [any_py p1 ys p2]
      exact fin _ hk
    · rename_i z e2
      split at h
      · rename_i c e1
        obtain ⟨a, rfl, ea, _⟩ := Wf.str rx e1
        obtain ⟨b, rfl, eb, _⟩ := Wf.str ry e2
        refine .inr (.inr ⟨c, b, by rw [one_str ea], rfl, ?_⟩)
        rw [eb]
        exact fin _ h
      · exact h.elim
    · exact h.elim
  | notin =>
    simp only [cmpD] at h
    split at h
    · rename_i ys e2
      obtain ⟨⟨p1, p2, d1, d2⟩, hk⟩ := h
      have p2' : plain (look m dy) = true := by rw [e2]; simpa [plain] using p2
      obtain ⟨a1, c1⟩ := w.dp rx p1
      obtain ⟨a2, c2⟩ := w.dp ry p2'
      rw [e2] at a2 c2 p2'
      refine .inl ⟨_, _, a1, by simpa only [toPy] using a2, shaped_of c1 p1 d1, by have := shaped_of c2 p2' (by simp only [depth]; omega); simpa only [toPy] using this, ?_⟩
      rw [any_py p1 ys p2]
      exact fin _ hk
    · rename_i ys e2
      obtain ⟨⟨p1, p2, d1, d2⟩, hk⟩ := h
      have p2' : plain (look m dy) = true := by rw [e2]; simpa [plain] using p2
      obtain ⟨a1, c1⟩ := w.dp rx p1
      obtain ⟨a2, c2⟩ := w.dp ry p2'
      rw [e2] at a2 c2 p2'
      refine .inr (.inl ⟨_, _, a1, by simpa only [toPy] using a2, shaped_of c1 p1 d1, by have := shaped_of c2 p2' (by simp only [depth]; omega); simpa only [toPy] using this, ?_⟩)
      rw [any_py p1 ys p2]
      exact fin _ hk
    · rename_i z e2
      split at h
      · rename_i c e1
        obtain ⟨a, rfl, ea, _⟩ := Wf.str rx e1
        obtain ⟨b, rfl, eb, _⟩ := Wf.str ry e2
        refine .inr (.inr ⟨c, b, by rw [one_str ea], rfl, ?_⟩)
        rw [eb]
        exact fin _ h
      · exact h.elim
    · exact h.elim
  | isN =>
    obtain ⟨h1, h2⟩ := h
    have e2 : look m dy = .non := by
      cases e : look m dy <;> simp_all [isNonD]
    refine ⟨Wf.non ry e2, ?_⟩
    have e : decide (x = V.non) = isNonD (look m dx) := by
      by_cases hx : x = .non
      · rw [decide_eq_true hx, nonI.mpr hx]
        rfl
      · rw [decide_eq_false hx]
        have : look m dx ≠ .non := fun z => hx (nonI.mp z)
        cases e : look m dx <;> simp_all [isNonD]
    rw [e]
    exact fin _ h2
  | notN =>
    obtain ⟨h1, h2⟩ := h
    have e2 : look m dy = .non := by
      cases e : look m dy <;> simp_all [isNonD]
    refine ⟨Wf.non ry e2, ?_⟩
    have e : decide (x = V.non) = isNonD (look m dx) := by
      by_cases hx : x = .non
      · rw [decide_eq_true hx, nonI.mpr hx]
        rfl
      · rw [decide_eq_false hx]
        have : look m dx ≠ .non := fun z => hx (nonI.mp z)
        cases e : look m dx <;> simp_all [isNonD]
    rw [e]
    exact fin _ h2
end
end
end DL

set_option Elab.async false
set_option linter.all false
set_option maxRecDepth 100000
set_option maxHeartbeats 2000000
namespace DL
open PySem L2
section
variable {X : Cx} {G : Nat → Option Fn} {fld : Addr → PySem.Str} {W : WX} {a b c : Expr} {ma mb mc : Ex} {pos : Pos}
theorem s_var {i : Nat} {x : PySem.Str} (h : PE X (.Name x pos) (tVar i)) : PE X (.Name x pos) (tL X.K G fld W (.var i)) := by
  refine PEimp h fun σ H Q ⟨r, m, Z, F, Qd, Ed, w, sl, ⟨d, hd, hq⟩, post, xp⟩ => ?_
  obtain ⟨v, hv, rv⟩ := sl.at_ i d hd
  exact ⟨v, hv, post d m v H F hq (Ext.refl Z F) w rv⟩
theorem s_cst {e : Expr} {v : V} {d : DV} (h : PE X e (tC v)) (hr : ∀ F, RelD X.K F v d) : PE X e (tL X.K G fld W (.cst d)) :=
  PEimp h fun σ H Q ⟨r, m, Z, F, Qd, Ed, w, sl, hq, post, xp⟩ => post d m v H F hq (Ext.refl Z F) w (hr F)
theorem s_bin {op : BOp} (ha : PE X a (tL X.K G fld W ma)) (hb : PE X b (tL X.K G fld W mb)) : PE X (.BinOp a (bopP op) b pos) (tL X.K G fld W (.bin op ma mb)) := by
  refine PEimp (pe_op (op_bin op) ha hb) fun σ H Q ⟨r, m, Z, F, Qd, Ed, w, sl, hq, post, xp⟩ => ?_
  simp only [rdE] at hq
  refine ⟨r, m, Z, F, _, Ed, w, sl, hq, fun d1 m1 v1 H1 F1 q1 e1 w1 r1 => ?_, xp⟩
  refine ⟨r, m1, Z, F1, _, Ed, w1, sl.mono e1.sm, q1, fun d2 m2 v2 H2 F2 q2 e2 w2 r2 => ?_, xp.ext e1⟩
  exact bin_ok w2 (r1.mono e2.sm) r2 q2 fun d v H' F' hk e' w' r' => post d m2 v H' F' hk (e1.trans (e2.trans e')) w' r'
theorem s_neg (ha : PE X a (tL X.K G fld W ma)) : PE X (.UnaryOp .USub a pos) (tL X.K G fld W (.neg ma)) := by
  refine PEimp (pe_un un_neg ha) fun σ H Q ⟨r, m, Z, F, Qd, Ed, w, sl, hq, post, xp⟩ => ?_
  simp only [rdE] at hq
  refine ⟨r, m, Z, F, _, Ed, w, sl, hq, fun d1 m1 v1 H1 F1 q1 e1 w1 r1 => ?_, xp⟩
  obtain ⟨i, rfl, q⟩ := q1
  cases r1
  exact ⟨i, rfl, post _ m1 _ H1 F1 q e1 w1 (.int _)⟩
theorem s_cmp {k : Nat} {op : COp} (hr : Room k X.A) (ha : PE X a (tL X.K G fld W ma)) (hb : PE X b (tL X.K G fld W mb)) (hm : behindInMarks (copP op) b = false) : PE X (.Compare a [copP op] [b] pos) (tL X.K G fld W (.cmp op ma mb)) := by
  refine PEimp (pe_cmpR (op_cmp hr op) ha hb hm) fun σ H Q ⟨r, m, Z, F, Qd, Ed, w, sl, hq, post, xp⟩ => ?_
  simp only [rdE] at hq
  refine ⟨r, m, Z, F, _, Ed, w, sl, hq, fun d1 m1 v1 H1 F1 q1 e1 w1 r1 => ?_, xp⟩
  refine ⟨r, m1, Z, F1, _, Ed, w1, sl.mono e1.sm, q1, fun d2 m2 v2 H2 F2 q2 e2 w2 r2 => ?_, xp.ext e1⟩
  exact cmp_ok w2 (r1.mono e2.sm) r2 q2 fun b hk => post (.bl b) m2 (.bl b) H2 F2 hk (e1.trans e2) w2 (.bl b)
theorem s_cmpT {k : Nat} {op : COp} (hr : Room k X.A) (ha : PE X a (tL X.K G fld W ma)) (hb : PE X b (tL X.K G fld W mb)) (hm : behindInMarks (copP op) b = false) : PT X (.Compare a [copP op] [b] pos) (tLT X.K G fld W (.ex (.cmp op ma mb))) := by
  refine PTimp (pt_cmpR (op_cmp hr op) ha hb hm) fun σ H Q ⟨r, m, Z, F, Qd, Ed, w, sl, hq, post, xp⟩ => ?_
  simp only [rdT, rdE] at hq
  refine ⟨r, m, Z, F, _, Ed, w, sl, hq, fun d1 m1 v1 H1 F1 q1 e1 w1 r1 => ?_, xp⟩
  refine ⟨r, m1, Z, F1, _, Ed, w1, sl.mono e1.sm, q1, fun d2 m2 v2 H2 F2 q2 e2 w2 r2 => ?_, xp.ext e1⟩
  refine cmp_ok w2 (r1.mono e2.sm) r2 q2 fun b hk => ?_
  obtain ⟨c, hc, hk⟩ := hk
  cases hc
  exact ⟨b, rfl, post b m2 b H2 F2 hk (e1.trans e2) w2 rfl⟩
theorem s_cmp2 {k : Nat} {op op' : COp} (hr : Room k X.A) (ha : PE X a (tL X.K G fld W ma)) (hb : PE X b (tL X.K G fld W mb)) (hc : PE X c (tL X.K G fld W mc)) (hm : lastMarks [copP op, copP op'] [b, c] = false) :
    PE X (.Compare a [copP op, copP op'] [b, c] pos) (tL X.K G fld W (.cmp2 op op' ma mb mc)) := by
  refine PEimp (pe_chain (op_cmp hr op) (op_cmp hr op') ha hb hc hm) fun σ H Q ⟨r, m, Z, F, Qd, Ed, w, sl, hq, post, xp⟩ => ?_
  simp only [rdE] at hq
  refine ⟨r, m, Z, F, _, Ed, w, sl, hq, fun d1 m1 v1 H1 F1 q1 e1 w1 r1 => ?_, xp⟩
  refine ⟨r, m1, Z, F1, _, Ed, w1, sl.mono e1.sm, q1, fun d2 m2 v2 H2 F2 q2 e2 w2 r2 => ?_, xp.ext e1⟩
  refine cmp_ok w2 (r1.mono e2.sm) r2 q2 fun b hk => ?_
  obtain ⟨c, hc, hk⟩ := hk
  cases hc
  refine ⟨b, rfl, ?_⟩
  cases b with
  | false => exact post _ m2 _ H2 F2 (by simpa using hk) (e1.trans e2) w2 (.bl _)
  | true =>
    refine ⟨r, m2, Z, F2, _, Ed, w2, sl.mono (e1.trans e2).sm, by simpa using hk, fun d3 m3 v3 H3 F3 q3 e3 w3 r3 => ?_, xp.ext (e1.trans e2)⟩
    exact cmp_ok w3 (r2.mono e3.sm) r3 q3 fun b hk => post (.bl b) m3 (.bl b) H3 F3 hk (e1.trans (e2.trans e3)) w3 (.bl b)
theorem s_notv (ha : PE X a (tL X.K G fld W ma)) : PE X (.UnaryOp .Not a pos) (tL X.K G fld W (.notv ma)) := by
  refine PEimp (pe_not ha) fun σ H Q ⟨r, m, Z, F, Qd, Ed, w, sl, hq, post, xp⟩ => ?_
  simp only [rdE] at hq
  refine ⟨r, m, Z, F, _, Ed, w, sl, hq, fun d1 m1 v1 H1 F1 q1 e1 w1 r1 => ?_, xp⟩
  obtain ⟨c, rfl, q⟩ := q1
  cases r1
  exact ⟨c, rfl, post _ m1 _ H1 F1 q e1 w1 (.bl _)⟩
theorem s_andv {rest : List Expr} (ha : PE X a (tL X.K G fld W ma)) (hb : PE X (.BoolOp .And (b :: rest) pos) (tL X.K G fld W mb)) : PE X (.BoolOp .And (a :: b :: rest) pos) (tL X.K G fld W (.andv ma mb)) := by
  refine PEimp (pe_and ha hb) fun σ H Q ⟨r, m, Z, F, Qd, Ed, w, sl, hq, post, xp⟩ => ?_
  simp only [rdE] at hq
  refine ⟨r, m, Z, F, _, Ed, w, sl, hq, fun d1 m1 v1 H1 F1 q1 e1 w1 r1 => ?_, xp⟩
  obtain ⟨c, rfl, q⟩ := q1
  cases r1
  refine ⟨c, rfl, ?_⟩
  cases c with
  | true => exact ⟨r, m1, Z, F1, _, Ed, w1, sl.mono e1.sm, by simpa using q, fun d2 m2 v2 H2 F2 q2 e2 w2 r2 => post d2 m2 v2 H2 F2 q2 (e1.trans e2) w2 r2, xp.ext e1⟩
  | false => exact post _ m1 _ H1 F1 (by simpa using q) e1 w1 (.bl _)
theorem s_orv {rest : List Expr} (ha : PE X a (tL X.K G fld W ma)) (hb : PE X (.BoolOp .Or (b :: rest) pos) (tL X.K G fld W mb)) : PE X (.BoolOp .Or (a :: b :: rest) pos) (tL X.K G fld W (.orv ma mb)) := by
  refine PEimp (pe_or ha hb) fun σ H Q ⟨r, m, Z, F, Qd, Ed, w, sl, hq, post, xp⟩ => ?_
  simp only [rdE] at hq
  refine ⟨r, m, Z, F, _, Ed, w, sl, hq, fun d1 m1 v1 H1 F1 q1 e1 w1 r1 => ?_, xp⟩
  obtain ⟨c, rfl, q⟩ := q1
  cases r1
  refine ⟨c, rfl, ?_⟩
  cases c with
  | false => exact ⟨r, m1, Z, F1, _, Ed, w1, sl.mono e1.sm, by simpa using q, fun d2 m2 v2 H2 F2 q2 e2 w2 r2 => post d2 m2 v2 H2 F2 q2 (e1.trans e2) w2 r2, xp.ext e1⟩
  | true => exact post _ m1 _ H1 F1 (by simpa using q) e1 w1 (.bl _)
variable {ta tb : Ts}
theorem s_ife (ht : PT X c (tLT X.K G fld W ta)) (ha : PE X a (tL X.K G fld W ma)) (hb : PE X b (tL X.K G fld W mb)) : PE X (.IfExp c a b pos) (tL X.K G fld W (.ife ta ma mb)) := by
  refine PEimp (pe_ifExp ht ha hb) fun σ H Q ⟨r, m, Z, F, Qd, Ed, w, sl, hq, post, xp⟩ => ?_
  simp only [rdE] at hq
  refine ⟨r, m, Z, F, _, Ed, w, sl, hq, fun d1 m1 v1 H1 F1 q1 e1 w1 r1 => ?_, xp⟩
  cases r1
  cases d1 with
  | true => exact ⟨r, m1, Z, F1, _, Ed, w1, sl.mono e1.sm, by simpa using q1, fun d2 m2 v2 H2 F2 q2 e2 w2 r2 => post d2 m2 v2 H2 F2 q2 (e1.trans e2) w2 r2, xp.ext e1⟩
  | false => exact ⟨r, m1, Z, F1, _, Ed, w1, sl.mono e1.sm, by simpa using q1, fun d2 m2 v2 H2 F2 q2 e2 w2 r2 => post d2 m2 v2 H2 F2 q2 (e1.trans e2) w2 r2, xp.ext e1⟩
/-! tests -/
theorem s_tand {rest : List Expr} (ha : PT X a (tLT X.K G fld W ta)) (hb : PW X (.BoolOp .And (b :: rest) pos) (tLT X.K G fld W tb)) : PW X (.BoolOp .And (a :: b :: rest) pos) (tLT X.K G fld W (.and ta tb)) := by
  refine PWimp (pw_and ha hb) fun σ H Q ⟨r, m, Z, F, Qd, Ed, w, sl, hq, post, xp⟩ => ?_
  simp only [rdT] at hq
  refine ⟨r, m, Z, F, _, Ed, w, sl, hq, fun d1 m1 v1 H1 F1 q1 e1 w1 r1 => ?_, xp⟩
  cases r1
  cases d1 with
  | true => exact ⟨r, m1, Z, F1, _, Ed, w1, sl.mono e1.sm, by simpa using q1, fun d2 m2 v2 H2 F2 q2 e2 w2 r2 => post d2 m2 v2 H2 F2 q2 (e1.trans e2) w2 r2, xp.ext e1⟩
  | false => exact post false m1 false H1 F1 (by simpa using q1) e1 w1 rfl
theorem s_tor {rest : List Expr} (ha : PT X a (tLT X.K G fld W ta)) (hb : PW X (.BoolOp .Or (b :: rest) pos) (tLT X.K G fld W tb)) : PW X (.BoolOp .Or (a :: b :: rest) pos) (tLT X.K G fld W (.or ta tb)) := by
  refine PWimp (pw_or ha hb) fun σ H Q ⟨r, m, Z, F, Qd, Ed, w, sl, hq, post, xp⟩ => ?_
  simp only [rdT] at hq
  refine ⟨r, m, Z, F, _, Ed, w, sl, hq, fun d1 m1 v1 H1 F1 q1 e1 w1 r1 => ?_, xp⟩
  cases r1
  cases d1 with
  | false => exact ⟨r, m1, Z, F1, _, Ed, w1, sl.mono e1.sm, by simpa using q1, fun d2 m2 v2 H2 F2 q2 e2 w2 r2 => post d2 m2 v2 H2 F2 q2 (e1.trans e2) w2 r2, xp.ext e1⟩
  | true => exact post true m1 true H1 F1 (by simpa using q1) e1 w1 rfl
theorem s_tnot (ha : PT X a (tLT X.K G fld W ta)) : PT X (.UnaryOp .Not a pos) (tLT X.K G fld W (.not ta)) := by
  refine PTimp (pt_not ha) fun σ H Q ⟨r, m, Z, F, Qd, Ed, w, sl, hq, post, xp⟩ => ?_
  simp only [rdT] at hq
  refine ⟨r, m, Z, F, _, Ed, w, sl, hq, fun d1 m1 v1 H1 F1 q1 e1 w1 r1 => ?_, xp⟩
  cases r1
  exact post (!d1) m1 (!d1) H1 F1 q1 e1 w1 rfl
theorem tru_ok {K : PySem.W.Frag} {Z F H : Hp} {m : Mu} {v : V} {d : DV} {b : Bool} (w : Wf K Z F H m) (r : RelD K F v d) (h : truD (look m d) = some b) : TruV K v H b := by
  cases e : look m d with
  | non => rw [e] at h; cases h; cases Wf.non r e; rfl
  | bl q => rw [e] at h; cases h; cases Wf.bl r e; rfl
  | int q => rw [e] at h; cases h; cases Wf.int r e; rfl
  | lst q =>
    rw [e] at h; cases h
    obtain ⟨x, vs, rfl, hx, rs, _⟩ := w.lst r e
    refine .inl ⟨vs, SqL.of hx, ?_⟩
    cases rs <;> rfl
  | tup q =>
    rw [e] at h; cases h
    obtain ⟨x, vs, rfl, _, hx, rs, _⟩ := w.tup r e
    refine .inr (.inl ⟨vs, SqT.of hx, ?_⟩)
    cases rs <;> rfl
  | _ => rw [e] at h; cases h
end
end DL

set_option Elab.async false
set_option linter.all false
set_option maxRecDepth 100000
set_option maxHeartbeats 2000000
namespace DL
open PySem L2
section
variable {X : Cx} {G : Nat → Option Fn} {fld : Addr → PySem.Str} {W : WX} {a b c : Expr} {ma mb mc : Ex} {pos : Pos}
/-! arguments, displays -/
theorem s_anil : PA X [] (tLA X.K G fld W .nil) := PAimp pa_nil fun σ H Q ⟨r, m, Z, F, Qd, Ed, w, sl, hq, post, xp⟩ => post [] m [] H F hq (Ext.refl Z F) w .nil
theorem s_acons {es : List Expr} {ms : Exs} (ha : PE X a (tL X.K G fld W ma)) (hb : PA X es (tLA X.K G fld W ms)) (hs : starEach (a :: es) X.env = (false, eval a X.env) :: starEach es X.env) : PA X (a :: es) (tLA X.K G fld W (.cons ma ms)) := by
  refine PAimp (pa_cons ha hb hs) fun σ H Q ⟨r, m, Z, F, Qd, Ed, w, sl, hq, post, xp⟩ => ?_
  simp only [rdA] at hq
  refine ⟨r, m, Z, F, _, Ed, w, sl, hq, fun d1 m1 v1 H1 F1 q1 e1 w1 r1 => ?_, xp⟩
  exact ⟨r, m1, Z, F1, _, Ed, w1, sl.mono e1.sm, q1, fun d2 m2 v2 H2 F2 q2 e2 w2 r2 => post _ m2 _ H2 F2 q2 (e1.trans e2) w2 (.cons (r1.mono e2.sm) r2), xp.ext e1⟩
theorem s_inil : PA X [] (tLI X.K G fld W .nil) := PAimp pa_nil fun σ H Q ⟨r, m, Z, F, Qd, Ed, w, sl, hq, post, xp⟩ => post [] m [] H F hq (Ext.refl Z F) w .nil
theorem s_icons {es : List Expr} {ms : Its} (ha : PE X a (tL X.K G fld W ma)) (hb : PA X es (tLI X.K G fld W ms)) (hs : starEach (a :: es) X.env = (false, eval a X.env) :: starEach es X.env) : PA X (a :: es) (tLI X.K G fld W (.one ma ms)) := by
  refine PAimp (pa_cons ha hb hs) fun σ H Q ⟨r, m, Z, F, Qd, Ed, w, sl, hq, post, xp⟩ => ?_
  simp only [rdI] at hq
  refine ⟨r, m, Z, F, _, Ed, w, sl, hq, fun d1 m1 v1 H1 F1 q1 e1 w1 r1 => ?_, xp⟩
  exact ⟨r, m1, Z, F1, _, Ed, w1, sl.mono e1.sm, q1, fun d2 m2 v2 H2 F2 q2 e2 w2 r2 => post _ m2 _ H2 F2 q2 (e1.trans e2) w2 (.cons (r1.mono e2.sm) r2), xp.ext e1⟩
theorem s_istar {es : List Expr} {ms : Its} {p : Pos} (ha : PE X a (tL X.K G fld W ma)) (hb : PA X es (tLI X.K G fld W ms)) : PA X (.Starred a p :: es) (tLI X.K G fld W (.star ma ms)) := by
  refine PAimp (StX.pa_star ha hb) fun σ H Q ⟨r, m, Z, F, Qd, Ed, w, sl, hq, post, xp⟩ => ?_
  simp only [rdI] at hq
  refine ⟨r, m, Z, F, _, Ed, w, sl, hq, fun d1 m1 v1 H1 F1 q1 e1 w1 r1 => ?_, xp⟩
  obtain ⟨xs, hx, q⟩ := q1
  rcases hx with hx | hx
  · obtain ⟨p, vs, rfl, hp, rs, _⟩ := w1.lst r1 hx
    exact ⟨p, vs, rfl, .inr (SqL.of hp), ⟨r, m1, Z, F1, _, Ed, w1, sl.mono e1.sm, q, fun d2 m2 v2 H2 F2 q2 e2 w2 r2 => post _ m2 _ H2 F2 q2 (e1.trans e2) w2 ((rs.mono e2.sm).append r2), xp.ext e1⟩⟩
  · obtain ⟨p, vs, rfl, _, hp, rs, _⟩ := w1.tup r1 hx
    exact ⟨p, vs, rfl, .inl (SqT.of hp), ⟨r, m1, Z, F1, _, Ed, w1, sl.mono e1.sm, q, fun d2 m2 v2 H2 F2 q2 e2 w2 r2 => post _ m2 _ H2 F2 q2 (e1.trans e2) w2 ((rs.mono e2.sm).append r2), xp.ext e1⟩⟩
theorem s_tup {es : List Expr} {ms : Its} {k : Nat} (h : PA X es (tLI X.K G fld W ms)) : PE X (.Tuple es k pos) (tL X.K G fld W (.tup ms)) := by
  refine PEimp (pe_tup h) fun σ H Q ⟨r, m, Z, F, Qd, Ed, w, sl, hq, post, xp⟩ => ?_
  simp only [rdE] at hq
  refine ⟨r, m, Z, F, _, Ed, w, sl, hq, fun d1 m1 v1 H1 F1 q1 e1 w1 r1 => ⟨?_, fun p hp => ?_⟩, xp⟩
  · rw [r1.length, ← LINE_eq]; exact q1.1
  · obtain ⟨w', e'⟩ := w1.new hp (.tup v1)
    exact post _ m1 _ _ _ q1.2 (e1.trans e') w' (.tup upd_same (r1.mono e'.sm) (by rw [r1.length]; exact q1.1))
/-! a new list, not yet frozen: p the place -/
def FreshL (K : PySem.W.Frag) (Z F H : Hp) (m : Mu) (v : V) (d : DV) : Prop := ∃ p vs ds, v = .ref p ∧ d = .lst ds ∧ H p = some (.lst vs) ∧ F p = none ∧ Z p = none ∧ m p = none ∧ RelDs K F vs ds ∧ vs.length ≤ LINE
/-- the reading of an expression that makes a new list -/
def tN (K : PySem.W.Frag) (G : Nat → Option Fn) (fld : Addr → PySem.Str) (W : WX) (e : Ex) : TE := fun σ H Q =>
  ∃ r m Z F Qd Ed, Wf K Z F H m ∧ Slots K F σ r ∧ rdE G e r m Qd Ed ∧
    (∀ d m' v H' F', Qd d m' → Ext Z F F' → Wf K Z F' H' m' → FreshL K Z F' H' m' v d → Q v H') ∧ XOk K fld W Z F σ Ed
theorem Wf.freeze {K : PySem.W.Frag} {Z F H : Hp} {m : Mu} {p : Addr} {o : HO} (w : Wf K Z F H m) (h : H p = some o) (hf : F p = none) (hz : Z p = none) (hm : m p = none) : Wf K Z (upd F p o) H m ∧ Ext Z F (upd F p o) := by
  refine ⟨⟨fun b u e => ?_, w.sz, fun q u e => ?_⟩, same_put hf, fun b u e => ?_⟩
  · by_cases hb : b = p
    · subst hb; rw [upd_same] at e; cases e; exact h
    · rw [upd_ne hb] at e; exact w.sf b u e
  · obtain ⟨a1, a2, a3⟩ := w.ob q u e
    have hq : q ≠ p := fun z => by subst z; rw [hm] at e; cases e
    exact ⟨by rw [upd_ne hq]; exact a1, a2, a3.mono (same_put hf) fun _ h => h⟩
  · by_cases hb : b = p
    · subst hb; exact .inr hz
    · rw [upd_ne hb] at e; exact .inl e
theorem PE.frozen {e : Expr} {me : Ex} (h : PE X e (tN X.K G fld W me)) : PE X e (tL X.K G fld W me) := by
  refine PEimp h fun σ H Q ⟨r, m, Z, F, Qd, Ed, w, sl, hq, post, xp⟩ => ⟨r, m, Z, F, Qd, Ed, w, sl, hq, fun d m' v H' F' q e' w' fr => ?_, xp⟩
  obtain ⟨p, vs, ds, rfl, rfl, hp, hf, hz, hm, rs, hl⟩ := fr
  obtain ⟨w2, e2⟩ := w'.freeze hp hf hz hm
  exact post _ m' _ H' _ q (e'.trans e2) w2 (.lst upd_same (rs.mono e2.sm) hl)
theorem PE.owned {e : Expr} {me : Ex} (h : PE X e (tN X.K G fld W me)) : PE X e (tL X.K G fld W (.own me)) := by
  refine PEimp h fun σ H Q ⟨r, m, Z, F, Qd, Ed, w, sl, hq, post, xp⟩ => ?_
  simp only [rdE] at hq
  refine ⟨r, m, Z, F, _, Ed, w, sl, hq, fun d m' v H' F' q e' w' fr => ?_, xp⟩
  obtain ⟨p, vs, ds, rfl, rfl, hp, hf, hz, hm, rs, hl⟩ := fr
  have q2 := q p hm
  refine post _ _ _ H' F' q2 e' ?_ (.loc p)
  refine ⟨w'.sf, w'.sz, fun b u e => ?_⟩
  unfold Mu.put at e
  by_cases hb : b = p
  · subst hb
    rw [if_pos rfl] at e
    cases e
    exact ⟨hf, hz, vs, hp, rs, hl⟩
  · rw [if_neg hb] at e
    exact w'.ob b u e
theorem Wf.fresh {K : PySem.W.Frag} {Z F H : Hp} {m : Mu} {p : Addr} {vs : List V} {ds : List DV} (w : Wf K Z F H m) (hp : H p = none) (r : RelDs K F vs ds) (hl : vs.length ≤ LINE) :
    Wf K Z F (upd H p (.lst vs)) m ∧ FreshL K Z F (upd H p (.lst vs)) m (.ref p) (.lst ds) := by
  have hf : F p = none := sub_none w.sf hp
  have hz : Z p = none := sub_none w.sz hp
  have hm : m p = none := by
    cases e : m p with
    | none => rfl
    | some o =>
      obtain ⟨x, hx⟩ := (w.ob p o e).2.2.some
      rw [hp] at hx; cases hx
  refine ⟨⟨fun b u e => ?_, fun b u e => ?_, fun q v e => ?_⟩, p, vs, ds, rfl, rfl, upd_same, hf, hz, hm, r, hl⟩
  · rw [upd_ne (ne_of_none e hf)]; exact w.sf b u e
  · rw [upd_ne (ne_of_none e hz)]; exact w.sz b u e
  · obtain ⟨a1, a2, a3⟩ := w.ob q v e
    obtain ⟨x, hx⟩ := a3.some
    exact ⟨a1, a2, a3.mono (fun _ _ h => h) fun u hu => by rw [upd_ne (ne_of_none hx hp)]; exact hu⟩
theorem n_lst {es : List Expr} {ms : Its} (h : PA X es (tLI X.K G fld W ms)) : PE X (.List es pos) (tN X.K G fld W (.lst ms)) := by
  refine PEimp (pe_lst h) fun σ H Q ⟨r, m, Z, F, Qd, Ed, w, sl, hq, post, xp⟩ => ?_
  simp only [rdE] at hq
  refine ⟨r, m, Z, F, _, Ed, w, sl, hq, fun d1 m1 v1 H1 F1 q1 e1 w1 r1 => ⟨?_, fun p hp => ?_⟩, xp⟩
  · rw [r1.length, ← LINE_eq]; exact q1.1
  · obtain ⟨w', fr⟩ := w1.fresh hp r1 (by rw [r1.length]; exact q1.1)
    exact post _ m1 _ _ _ q1.2 e1 w' fr
/-! subscripts -/
theorem atI_atD {α : Type} (xs : List α) (i : Int) : atI xs i = atD xs i := rfl
theorem s_sub (ha : PE X a (tL X.K G fld W ma)) (hb : PE X b (tL X.K G fld W mb)) (hp : PlainIx b) : PE X (.Subscript a b pos) (tL X.K G fld W (.sub ma mb)) := by
  refine PEimp (pe_ix ix_seq ha hb hp) fun σ H Q ⟨r, m, Z, F, Qd, Ed, w, sl, hq, post, xp⟩ => ?_
  simp only [rdE] at hq
  refine ⟨r, m, Z, F, _, Ed, w, sl, hq, fun d1 m1 v1 H1 F1 q1 e1 w1 r1 => ?_, xp⟩
  refine ⟨r, m1, Z, F1, _, Ed, w1, sl.mono e1.sm, q1, fun d2 m2 v2 H2 F2 q2 e2 w2 r2 => ?_, xp.ext e1⟩
  have r1' := r1.mono e2.sm
  have at_ : ∀ {vs : List V} {ds : List DV} {i : Int} {x : DV}, RelDs X.K F2 vs ds → atD ds i = some x → ∃ y, atI vs i = some y ∧ RelD X.K F2 y x := fun {vs ds i x} rs h => by
    unfold atD at h
    unfold atI
    rw [rs.length]
    cases e : ixN ds.length i with
    | none =>
      have : idx ds.length i = none := e
      rw [this] at h
      cases h
    | some j =>
      have : idx ds.length i = some j := e
      rw [this] at h
      obtain ⟨y, h1, h2⟩ := rs.get h
      exact ⟨y, h1, h2⟩
  unfold subD at q2
  split at q2
  · rename_i xs i e
    obtain ⟨x, hx, hk⟩ := q2
    obtain ⟨p, vs, rfl, hp, rs, _⟩ := w2.lst r1' e
    obtain ⟨y, h1, h2⟩ := at_ rs hx
    cases r2
    exact .inl ⟨p, vs, i, y, rfl, rfl, SqL.of hp, h1, post x m2 y H2 F2 hk (e1.trans e2) w2 h2⟩
  · rename_i xs i e
    obtain ⟨x, hx, hk⟩ := q2
    obtain ⟨p, vs, rfl, _, hp, rs, _⟩ := w2.tup r1' e
    obtain ⟨y, h1, h2⟩ := at_ rs hx
    cases r2
    exact .inr (.inl ⟨p, vs, i, y, rfl, rfl, SqT.of hp, h1, post x m2 y H2 F2 hk (e1.trans e2) w2 h2⟩)
  · rename_i xs i e
    obtain ⟨hl, x, hx, hk⟩ := q2
    obtain ⟨z, rfl, ez, cz⟩ := Wf.str r1' e
    cases r2
    refine .inr (.inr ⟨z, i, x, rfl, rfl, by rw [lenS, ez, ← LINE_eq]; exact hl, by rw [ez]; exact hx, post _ m2 _ H2 F2 hk (e1.trans e2) w2 ?_⟩)
    have hm : x ∈ xs := by
      unfold atD at hx
      cases e : idx xs.length i with
      | none => rw [e] at hx; cases hx
      | some j => rw [e] at hx; exact List.mem_of_getElem? hx
    have h := RelD.str (K := X.K) (F := F2) ⟨#[x]⟩ (fun c hc => by
      have : c = x := by simpa using hc
      rw [this]; exact cz x hm)
    exact h
  · exact q2.elim
/-! slices -/
theorem s_onone : PO X none (tLO X.K G fld W .none) := POimp po_none fun σ H Q ⟨r, m, Z, F, Qd, Ed, w, sl, hq, post, xp⟩ => post none m none H F hq (Ext.refl Z F) w rfl
theorem s_osome (ha : PE X a (tL X.K G fld W ma)) : PO X (some a) (tLO X.K G fld W (.some ma)) := by
  refine POimp (po_some ha) fun σ H Q ⟨r, m, Z, F, Qd, Ed, w, sl, hq, post, xp⟩ => ?_
  simp only [rdO] at hq
  refine ⟨r, m, Z, F, _, Ed, w, sl, hq, fun d1 m1 v1 H1 F1 q1 e1 w1 r1 => ?_, xp⟩
  obtain ⟨i, rfl, q⟩ := q1
  cases r1
  exact ⟨i, rfl, post _ m1 _ H1 F1 q e1 w1 rfl⟩
theorem cutV_rel {K : PySem.W.Frag} {F : Hp} {vs : List V} {ds : List DV} (r : RelDs K F vs ds) (lo hi : Option Int) : RelDs K F (cutV vs lo hi) (cut ds lo hi) := by
  unfold cutV cut
  rw [r.length]
  exact (r.drop _).take _
theorem cutV_len (vs : List V) (lo hi : Option Int) : (cutV vs lo hi).length ≤ vs.length := by
  unfold cutV
  rw [List.length_take, List.length_drop]
  omega
theorem s_slc {lo hi : Option Expr} {ml mh : Ox} {p2 : Pos} (ha : PE X a (tL X.K G fld W ma)) (hl : PO X lo (tLO X.K G fld W ml)) (hh : PO X hi (tLO X.K G fld W mh)) : PE X (.Subscript a (.Slice lo hi none p2) pos) (tL X.K G fld W (.slc ma ml mh)) := by
  refine PEimp (pe_slice (SlR.or sl_list (SlR.or sl_tupA sl_str)) ha hl hh) fun σ H Q ⟨r, m, Z, F, Qd, Ed, w, sl, hq, post, xp⟩ => ?_
  simp only [rdE] at hq
  refine ⟨r, m, Z, F, _, Ed, w, sl, hq, fun d1 m1 v1 H1 F1 q1 e1 w1 r1 => ?_, xp⟩
  refine ⟨r, m1, Z, F1, _, Ed, w1, sl.mono e1.sm, q1, fun i m2 i' H2 F2 q2 e2 w2 r2 => ?_, xp.ext e1⟩
  cases r2
  refine ⟨r, m2, Z, F2, _, Ed, w2, sl.mono (e1.trans e2).sm, q2, fun j m3 j' H3 F3 q3 e3 w3 r3 => ?_, xp.ext (e1.trans e2)⟩
  cases r3
  have r1' := r1.mono (e2.trans e3).sm
  have e13 := e1.trans (e2.trans e3)
  unfold cutD at q3
  split at q3
  · rename_i xs e
    obtain ⟨p, vs, rfl, hp, rs, hl⟩ := w3.lst r1' e
    refine .inl ⟨p, vs, rfl, SqL.of hp, fun q hq => ?_⟩
    obtain ⟨w', e'⟩ := w3.new hq (.lst (cutV vs i j))
    exact post _ m3 _ _ _ q3 (e13.trans e') w' (.lst upd_same ((cutV_rel rs i j).mono e'.sm) (Nat.le_trans (cutV_len vs i j) hl))
  · rename_i xs e
    obtain ⟨p, vs, rfl, fp, hp, rs, hl⟩ := w3.tup r1' e
    refine .inr (.inl ⟨p, vs, rfl, SqT.of hp, fun hw => ?_, fun _ q hq => ?_⟩)
    · have ec : cut xs i j = xs := by
        unfold cut
        have e1 : sIx xs.length 0 i = 0 := by rw [← rs.length]; exact hw.1
        have e2 : sIx xs.length xs.length j = xs.length := by rw [← rs.length]; exact hw.2
        rw [e1, e2, List.drop_zero, Nat.sub_zero, List.take_length]
      rw [ec] at q3
      exact post _ m3 _ _ _ q3 e13 w3 (.tup fp rs hl)
    · obtain ⟨w', e'⟩ := w3.new hq (.tup (cutV vs i j))
      exact post _ m3 _ _ _ q3 (e13.trans e') w' (.tup upd_same ((cutV_rel rs i j).mono e'.sm) (Nat.le_trans (cutV_len vs i j) hl))
  · rename_i xs e
    obtain ⟨z, rfl, ez, cz⟩ := Wf.str r1' e
    refine .inr (.inr ⟨z, rfl, by rw [lenS, ez, ← LINE_eq]; exact q3.1, post _ m3 _ _ _ q3.2 e13 w3 ?_⟩)
    have ec : (cutS z i j).cps.toList = cut xs i j := by
      unfold cutS cut
      rw [lenS, ez]
      rfl
    rw [← ec]
    refine .str _ fun c hc => ?_
    rw [ec] at hc
    exact cz c (List.mem_of_mem_drop (List.mem_of_mem_take hc))
  · exact q3.elim
end
end DL

set_option Elab.async false
set_option linter.all false
set_option maxRecDepth 100000
set_option maxHeartbeats 2000000
namespace DL
open PySem L2
section
variable {X : Cx} {G : Nat → Option Fn} {fld : Addr → PySem.Str} {W : WX} {a b c : Expr} {ma mb mc : Ex} {pos p : Pos}
theorem look_of {m : Mu} {d : DV} (h : isLoc d = false) : look m d = d := by cases d <;> first | rfl | cases h
/-- the places that are looked at -/
def seen (ds : List DV) : List Addr := ds.filterMap fun d => match d with | .loc a => some a | _ => none
theorem mem_seen {ds : List DV} {q : Addr} : q ∈ seen ds ↔ DV.loc q ∈ ds := by
  unfold seen
  rw [List.mem_filterMap]
  constructor
  · rintro ⟨d, hd, e⟩
    cases d <;> first | (cases e; done) | (injection e with e; subst e; exact hd)
  · intro h
    exact ⟨_, h, rfl⟩
/-- frozen for a while -/
def viewF (F H : Hp) (m : Mu) (ds : List DV) : Hp := fun q => if q ∈ seen ds ∧ (m q).isSome = true then H q else F q
theorem call_pure {K : PySem.W.Frag} {Z F H : Hp} {m : Mu} {s : PSp} {vs : List V} {ds : List DV} {k : Post} {e : XPost} {Q : VK} {E : XK} (w : Wf K Z F H m) (rs : RelDs K F vs ds)
    (h : s (ds.map (look m)) (fun d => (ds.any isLoc = true → noMut d = true) ∧ k d m) (fun x => (ds.any isLoc = true → noMut x.arg = true) ∧ e x m))
    (post : ∀ d v H' F', k d m → Ext Z F F' → Wf K Z F' H' m → RelD K F' v d → Q v H')
    (xp : ∀ x H' F' cls dd, e x m → Ext Z F F' → Wf K Z F' H' m → ExcR K fld Z F' H' m x cls dd → E cls dd H') : spP K fld s vs H Q E := by
  have vsub : Same F (viewF F H m ds) := fun b o e => by
    unfold viewF
    by_cases hb : b ∈ seen ds ∧ (m b).isSome = true
    · obtain ⟨u, hu⟩ := Option.isSome_iff_exists.mp hb.2
      rw [(w.ob b u hu).1] at e; cases e
    · rw [if_neg hb]; exact e
  have vH : Sub (viewF F H m ds) H := fun b o e => by
    unfold viewF at e
    by_cases hb : b ∈ seen ds ∧ (m b).isSome = true
    · rw [if_pos hb] at e; exact e
    · rw [if_neg hb] at e; exact w.sf b o e
  have rv : ∀ {v : V} {d : DV}, RelD K F v d → d ∈ ds → RelD K (viewF F H m ds) v (look m d) := fun {v d} r hd => by
    cases r with
    | loc q =>
      unfold look
      simp only
      have hv : ∀ u, m q = some u → viewF F H m ds q = H q := fun u hu => by
        unfold viewF
        rw [if_pos ⟨mem_seen.mpr hd, by rw [hu]; rfl⟩]
      cases e : m q with
      | none => exact .loc q
      | some o =>
        cases o with
        | lst xs => obtain ⟨_, _, ys, h1, h2, h3⟩ := w.ob q _ e; exact .lst ((hv _ e).trans h1) (h2.mono vsub) h3
        | dic xs => obtain ⟨_, _, ys, h1, h2⟩ := w.ob q _ e; exact .dic (.inl ((hv _ e).trans h1)) (h2.mono vsub)
        | dit xs => obtain ⟨_, _, ys, h1, h2⟩ := w.ob q _ e; exact .dit (.inl ((hv _ e).trans h1)) (h2.mono vsub)
        | ins c xs => obtain ⟨_, _, dx, ys, h1, h2⟩ := w.ob q _ e; exact .ins ((hv _ e).trans h1) (h2.mono vsub)
        | st => exact (w.ob q _ e).2.2.elim
    | non => exact .non
    | bl b => exact .bl b
    | int b => exact .int b
    | str b hb => exact .str b hb
    | tup a b c => exact .tup (vsub _ _ a) (b.mono vsub) c
    | lst a b c => exact .lst (vsub _ _ a) (b.mono vsub) c
    | dic a b => exact .dic (Rd.same vsub a) (b.mono vsub)
    | dit a b => exact .dit (Rd.same vsub a) (b.mono vsub)
    | ins a b => exact .ins (vsub _ _ a) (b.mono vsub)
    | scr a b => exact .scr (Same.seq vsub a) b
  have rvs : ∀ {vs : List V} {es : List DV}, RelDs K F vs es → (∀ d ∈ es, d ∈ ds) → RelDs K (viewF F H m ds) vs (es.map (look m)) := by
    intro vs es r
    induction es generalizing vs with
    | nil => intro _; cases r; exact .nil
    | cons x t ih =>
      intro hm
      cases r with
      | cons r1 r2 => exact .cons (rv r1 (hm _ List.mem_cons_self)) (ih r2 fun d hd => hm d (List.mem_cons_of_mem _ hd))
  -- behind the call
  have back : ∀ F' H', Ext H (viewF F H m ds) F' → Sub F' H' → Sub H H' → ∃ F2, Ext Z F F2 ∧ Wf K Z F2 H' m ∧ (ds.any isLoc = false → F2 = F') ∧
      (∀ q, F' q = none → F2 q = none) ∧ (∀ b xs, F' b = some (.tup xs) → F2 b = some (.tup xs)) := by
    intro F' H' e' s' sH
    refine ⟨fun q => if q ∈ seen ds ∧ (m q).isSome = true then none else F' q, ⟨fun b o e => ?_, fun b o e => ?_⟩, ⟨fun b o e => ?_, fun b o e => ?_, fun q u e => ?_⟩, fun hn => ?_, fun q e => ?_, fun b o e => ?_⟩
    · have hb : ¬ (b ∈ seen ds ∧ (m b).isSome = true) := fun hb => by
        obtain ⟨u, hu⟩ := Option.isSome_iff_exists.mp hb.2
        rw [(w.ob b u hu).1] at e; cases e
      show (if b ∈ seen ds ∧ (m b).isSome = true then none else F' b) = some o
      rw [if_neg hb]
      exact e'.sm b o (vsub b o e)
    · have e : (if b ∈ seen ds ∧ (m b).isSome = true then none else F' b) = some o := e
      by_cases hb : b ∈ seen ds ∧ (m b).isSome = true
      · rw [if_pos hb] at e; cases e
      · rw [if_neg hb] at e
        rcases e'.new b o e with z | z
        · unfold viewF at z
          rw [if_neg hb] at z
          exact .inl z
        · exact .inr (sub_none w.sz z)
    · have e : (if b ∈ seen ds ∧ (m b).isSome = true then none else F' b) = some o := e
      by_cases hb : b ∈ seen ds ∧ (m b).isSome = true
      · rw [if_pos hb] at e; cases e
      · rw [if_neg hb] at e; exact s' b o e
    · exact sH b o (w.sz b o e)
    · obtain ⟨a1, a2, a3⟩ := w.ob q u e
      refine ⟨?_, a2, ?_⟩
      · show (if q ∈ seen ds ∧ (m q).isSome = true then none else F' q) = none
        by_cases hb : q ∈ seen ds ∧ (m q).isSome = true
        · rw [if_pos hb]
        · rw [if_neg hb]
          cases z : F' q with
          | none => rfl
          | some o =>
            obtain ⟨x, hx⟩ := a3.some
            rcases e'.new q o z with y | y
            · unfold viewF at y
              rw [if_neg hb, a1] at y; cases y
            · rw [hx] at y; cases y
      · refine a3.mono (fun b o h => ?_) fun v hv => sH q v hv
        have hb : ¬ (b ∈ seen ds ∧ (m b).isSome = true) := fun hb => by
          obtain ⟨u, hu⟩ := Option.isSome_iff_exists.mp hb.2
          rw [(w.ob b u hu).1] at h; cases h
        show (if b ∈ seen ds ∧ (m b).isSome = true then none else F' b) = some o
        rw [if_neg hb]
        exact e'.sm b o (vsub b o h)
    · funext q
      show (if q ∈ seen ds ∧ (m q).isSome = true then none else F' q) = F' q
      rw [if_neg]
      rintro ⟨h1, _⟩
      have h2 := mem_seen.mp h1
      have : ds.any isLoc = true := List.any_eq_true.mpr ⟨_, h2, rfl⟩
      rw [this] at hn; cases hn
    · show (if q ∈ seen ds ∧ (m q).isSome = true then none else F' q) = none
      split <;> simp [*]
    · show (if b ∈ seen ds ∧ (m b).isSome = true then none else F' b) = some (.tup o)
      rw [if_neg]
      · exact e
      · rintro ⟨h5, h6⟩
        obtain ⟨u, hu⟩ := Option.isSome_iff_exists.mp h6
        have e2 : F' b = H b := by
          obtain ⟨x, hx⟩ := (w.ob b u hu).2.2.some
          have : viewF F H m ds b = some x := by
            unfold viewF
            rw [if_pos ⟨h5, h6⟩]; exact hx
          rw [e'.sm b x this, hx]
        rw [e2] at e
        obtain ⟨_, _, a3⟩ := w.ob b u hu
        cases u with
        | lst ds => obtain ⟨ys, y1, _⟩ := a3; rw [e] at y1; cases y1
        | dic ds => obtain ⟨ys, y1, _⟩ := a3; rw [e] at y1; cases y1
        | dit ds => obtain ⟨ys, y1, _⟩ := a3; rw [e] at y1; cases y1
        | ins c ds => obtain ⟨dx, ys, y1, _⟩ := a3; rw [e] at y1; cases y1
        | st => exact a3.elim
  have relB : ∀ {F' F2 : Hp} {v : V} {d : DV}, (ds.any isLoc = false → F2 = F') → (∀ b xs, F' b = some (.tup xs) → F2 b = some (.tup xs)) → (ds.any isLoc = true → noMut d = true) → RelD K F' v d → RelD K F2 v d := fun {F' F2 v d} h1 h2 h3 r => by
    cases hl : ds.any isLoc with
    | false => rw [h1 hl]; exact r
    | true => exact r.less h2 (h3 hl)
  refine ⟨ds.map (look m), viewF F H m ds, _, _, vH, rvs rs (fun _ h => h), h, fun d v H' F' q e' s' sH r => ?_, fun x H' F' cls dd q e' s' sH r => ?_⟩
  · obtain ⟨F2, x1, x2, x3, x4, x5⟩ := back F' H' e' s' sH
    exact post d v H' F2 q.2 x1 x2 (relB x3 x5 q.1 r)
  · obtain ⟨F2, x1, x2, x3, x4, x5⟩ := back F' H' e' s' sH
    obtain ⟨rfl, dx, v, rfl, y1, y2, y3, _, y4⟩ := r
    refine xp x H' F2 _ _ q.2 x1 x2 ⟨rfl, dx, v, rfl, y1, x4 _ y2, sub_none w.sz y3, ?_, relB x3 x5 q.1 y4⟩
    cases e : m dx with
    | none => rfl
    | some o =>
      obtain ⟨u, hu⟩ := (w.ob dx o e).2.2.some
      rw [y3] at hu; cases hu
/-- what the callee's promise wants -/
theorem call_sp {f : Nat} {g : Fn} {Z F H : Hp} {m : Mu} {vs : List V} {ds : List DV} {Qd : Post} {Ed : XPost} {Q : VK} {σ : L2.St} (hG : G f = some g) (w : Wf X.K Z F H m) (rs : RelDs X.K F vs ds) (q : callD G f ds m Qd Ed)
    (post : ∀ d m' v H' F', Qd d m' → Ext Z F F' → Wf X.K Z F' H' m' → RelD X.K F' v d → Q v H') (xp : XOk X.K fld W Z F σ Ed) : spOf X.K fld g vs H Q (WE W σ) := by
  unfold callD at q
  rw [hG] at q
  cases g with
  | pure s => exact call_pure (k := Qd) (e := Ed) w rs q (fun d v H' F' hk e' w' r' => post d m v H' F' hk e' w' r') (fun x H' F' cls dd hk e' w' r' => xp x m H' F' cls dd hk e' w' r')
  | gen s => exact ⟨ds, m, Z, F, Qd, Ed, w, rs, q, post, xp⟩
/-- f(..), a def of the table -/
theorem s_call {k : Nat} {f : Nat} {x : PySem.Str} {g : Fn} {es : List Expr} {ms : Exs} (hG : G f = some g) (hr : Room k X.A) (hx : FnAt X fld k (x, []) g) (hgl : Gl X x) (tk : Takes X W) (ha : PA X (a :: es) (tLA X.K G fld W ms))
    (hdb : (x == ("__debug__" : PySem.Str)) = false) (he : starEach (a :: es) X.env = (false, eval a X.env) :: starEach es X.env) (hpl : (backTo pos (starEach es X.env)).any (·.1) = false) :
    PE X (.Call (.Name x p) (a :: es) [] pos) (tL X.K G fld W (.call f ms)) := by
  obtain ⟨ad, fd, ps, sp, hm, hk, F, ⟨_, rfl, hb⟩ | ⟨z, _⟩⟩ := hx.ex
  · refine PEimp (pe_callS F hr hgl hm hk hb (fun σ => passAt tk σ) ha hdb he hpl) fun σ H Q ⟨r, m, Z, F, Qd, Ed, w, sl, hq, post, xp⟩ => ?_
    simp only [rdE] at hq
    refine ⟨r, m, Z, F, _, Ed, w, sl, hq, fun d1 m1 v1 H1 F1 q1 e1 w1 r1 => ?_, xp⟩
    exact call_sp hG w1 r1 q1 (fun d m' v H' F' hk e' w' r' => post d m' v H' F' hk (e1.trans e') w' r') (xp.ext e1)
  · exact absurd rfl z
theorem s_call0 {k : Nat} {f : Nat} {x : PySem.Str} {g : Fn} (hG : G f = some g) (hr : Room k X.A) (hx : FnAt X fld k (x, []) g) (hgl : Gl X x) (tk : Takes X W) (hdb : (x == ("__debug__" : PySem.Str)) = false) :
    PE X (.Call (.Name x p) [] [] pos) (tL X.K G fld W (.call f .nil)) := by
  obtain ⟨ad, fd, ps, sp, hm, hk, F, ⟨_, rfl, hb⟩ | ⟨z, _⟩⟩ := hx.ex
  · refine ⟨fun pins s σ H Q I h => ?_⟩
    refine wpAny_Call_Name_kw (ld_glob I hgl hm ?_ hdb)
    obtain ⟨r, m, Z, F', Qd, Ed, w, sl, hq, post, xp⟩ := h
    simp only [rdE, rdA] at hq
    exact PySem.W.callWith_K0 I.kIn hk (run_fnS (us := []) (E := WE W) F hr hb (passAt tk σ) I .nil (call_sp hG w .nil hq post xp))
  · exact absurd rfl z
/-- the keywords' values -/
def kwEs : List Keyword → List Expr
  | [] => []
  | ⟨_, e, _⟩ :: r => e :: kwEs r
theorem s_kw {kws : List Keyword} : ∀ {ms : Exs}, PK X kws (tLA X.K G fld W ms) → PK X kws (tLA X.K G fld W ms) := fun h => h
theorem PKimp {kws : List Keyword} {t t' : TA} (h : PK X kws t) (i : ∀ σ H Q, t' σ H Q → t σ H Q) : PK X kws t' := ⟨fun p pins s σ H Q I q => h.run p pins s σ H Q I (i σ H Q q)⟩
theorem s_kwnil : PK X [] (tLA X.K G fld W .nil) := PKimp pk_nil fun σ H Q ⟨r, m, Z, F, Qd, Ed, w, sl, hq, post, xp⟩ => post [] m [] H F hq (Ext.refl Z F) w .nil
theorem s_kwcons {kws : List Keyword} {ms : Exs} {nm : Option PySem.Str} {kp : Pos} (ha : PE X a (tL X.K G fld W ma)) (hb : PK X kws (tLA X.K G fld W ms)) : PK X (⟨nm, a, kp⟩ :: kws) (tLA X.K G fld W (.cons ma ms)) := by
  refine PKimp (pk_cons ha hb) fun σ H Q ⟨r, m, Z, F, Qd, Ed, w, sl, hq, post, xp⟩ => ?_
  simp only [rdA] at hq
  refine ⟨r, m, Z, F, _, Ed, w, sl, hq, fun d1 m1 v1 H1 F1 q1 e1 w1 r1 => ?_, xp⟩
  exact ⟨r, m1, Z, F1, _, Ed, w1, sl.mono e1.sm, q1, fun d2 m2 v2 H2 F2 q2 e2 w2 r2 => post _ m2 _ H2 F2 q2 (e1.trans e2) w2 (.cons (r1.mono e2.sm) r2), xp.ext e1⟩
theorem run_fnNS {CX : CXT} {k n : Nat} {f : Addr} {fd : FuncData} {ps ks : List PySem.Str} {sp : Sp} {E : XK} {pins : List (Addr × Obj)} {σ : L2.St} {H : Hp} {s : Shared} {Q : VK} {us ws : List Value} {vs zs : List V} {g : List Value → List Value → List Value} {gV : List V → List V → List V}
    (F : FnOk X.prog X.w X.K X.mg X.base CX k f fd ps sp) (hr : Room k X.A) (hb : KBn X.K fd ps n ks g gV) (hx : PassesAt CX X σ E) (I : Inv X pins σ H s) (r : Vals vs us) (rz : Vals zs ws) (l1 : vs.length = n) (l2 : zs.length = ks.length) (h : sp (gV vs zs) H Q E) :
    wpAny (model X.prog X.w) X.A (call (.ref f) us (ks.zip ws)) (EP X pins σ Q) X.xe s := by
  have r2 := hb.rel r rz
  refine wpAny_call (codeAny_mono (F.run X.A X.stack s H ⟨us, ks.zip ws⟩ (g us ws) (gV vs zs) Q E hr I.env0 (hb.to s us ws I.kIn (r.length.symm.trans l1) (rz.length.symm.trans l2)) r2 h) fun r s' hq => ?_)
  cases r with
  | error e => exact hx pins H s e s' I hq
  | ok fl =>
    cases fl with
    | ret u => exact I.after hq
    | next => exact False.elim hq
    | brk => exact False.elim hq
    | cont => exact False.elim hq
/-- f(k = v, ..) -/
theorem s_callk {k : Nat} {f : Nat} {x : PySem.Str} {ks : List PySem.Str} {g : Fn} {kws : List Keyword} {ms : Exs} (hG : G f = some g) (hr : Room k X.A) (hx : FnAt X fld k (x, ks) g) (hn : ks ≠ []) (hgl : Gl X x) (tk : Takes X W) (hkw : PK X kws (tLA X.K G fld W ms))
    (hks : kws.map (·.arg) = ks.map some) (hdb : (x == ("__debug__" : PySem.Str)) = false) :
    PE X (.Call (.Name x p) [] kws pos) (tL X.K G fld W (.call f ms)) := by
  have k1 : ∀ (kws : List Keyword) (ks : List PySem.Str), kws.map (·.arg) = ks.map some → (backToKw pos (keywordEach kws X.env)).all (·.1.isSome) = true ∧ (backToKw pos (keywordEach kws X.env)).filterMap (·.1) = ks ∧ (backToKw pos (keywordEach kws X.env)).any (·.1.isNone) = false := by
    intro kws
    induction kws with
    | nil =>
      intro ks h
      cases ks with
      | nil => exact ⟨rfl, rfl, rfl⟩
      | cons _ _ => cases h
    | cons q r ih =>
      intro ks h
      cases ks with
      | nil => cases h
      | cons z t =>
        simp only [List.map_cons, List.cons.injEq] at h
        obtain ⟨h1, h2⟩ := h
        obtain ⟨i1, i2, i3⟩ := ih t h2
        obtain ⟨nm, e, kp⟩ := q
        simp only at h1
        subst h1
        refine ⟨?_, ?_, ?_⟩
        · show (true && (backToKw pos (keywordEach r X.env)).all (·.1.isSome)) = true
          rw [i1]; rfl
        · show z :: (backToKw pos (keywordEach r X.env)).filterMap (·.1) = z :: t
          rw [i2]
        · show (false || (backToKw pos (keywordEach r X.env)).any (·.1.isNone)) = false
          rw [i3]; rfl
  obtain ⟨h1, h2, h3⟩ := k1 kws ks hks
  obtain ⟨ad, fd, ps, sp, hm, hk, F, ⟨z, _⟩ | ⟨_, gg, gV, hb, imp⟩⟩ := hx.ex
  · exact absurd z hn
  · refine ⟨fun pins s σ H Q I h => ?_⟩
    refine wpAny_Call_Name_kw (ld_glob I hgl hm ?_ hdb)
    refine PySem.W.callWith_KW0 (h₀ := X.base) I.ok.mod.kin hk h1 ?_ (by rw [h3]; rfl)
    obtain ⟨r, m, Z, F', Qd, Ed, w, sl, hq, post, xp⟩ := h
    simp only [rdE] at hq
    have hq' : tLA X.K G fld W ms σ H (fun vs H1 => spOf X.K fld g vs H1 Q (WE W σ)) := ⟨r, m, Z, F', _, Ed, w, sl, hq, fun d1 m1 v1 H1 F1 q1 e1 w1 r1 => call_sp hG w1 r1 q1 (fun d m' v H' F' hk e' w' r' => post d m' v H' F' hk (e1.trans e') w' r') (xp.ext e1), xp⟩
    refine thn (hkw.run pos pins s σ H _ I hq') fun ws s2 ⟨zs, H2, I2, rz, q2⟩ => ⟨I2.kIn, ?_⟩
    rw [h2]
    obtain ⟨l2, q3⟩ := imp zs H2 Q _ q2
    exact run_fnNS (us := []) (vs := []) F hr hb (passAt tk σ) I2 .nil rz rfl l2 q3
end
end DL

set_option Elab.async false
set_option linter.all false
set_option maxRecDepth 100000
set_option maxHeartbeats 2000000
namespace DL
open PySem L2
section
variable {X : Cx} {G : Nat → Option Fn} {fld : Addr → PySem.Str} {W : WX} {a b c : Expr} {ma mb mc : Ex} {pos p : Pos}
/-! ### built-ins, by values -/
section
variable {K : PySem.W.Frag} {Z F H : Hp} {m : Mu}
/-- what one wants behind a built-in call -/
abbrev Fin (K : PySem.W.Frag) (Z F : Hp) (m : Mu) (k : DV → Prop) (Q : VK) : Prop := ∀ d v H' F', k d → Ext Z F F' → Wf K Z F' H' m → RelD K F' v d → Q v H'
theorem strs_of : ∀ {vs : List V} {ds : List DV} {ss : List S}, RelDs K F vs ds → strs? ds = some ss → ∃ ys : List PySem.Str, vs = ys.map V.str ∧ ss = ys.map (fun y => y.cps.toList) ∧ ∀ y ∈ ys, ∀ c ∈ y.cps.toList, c < 0x110000
  | _, _, _, .nil, h => by cases h; exact ⟨[], rfl, rfl, fun _ h => nomatch h⟩
  | _, _, _, .cons (ds := ds') r t, h => by
    cases r with
    | str x hx =>
      simp only [strs?] at h
      cases e : strs? ds' with
      | none => rw [e] at h; cases h
      | some q =>
        rw [e] at h
        cases h
        obtain ⟨ys, h1, h2, h3⟩ := strs_of t e
        refine ⟨x :: ys, by rw [h1]; rfl, by rw [h2]; rfl, fun y hy => ?_⟩
        rcases List.mem_cons.mp hy with z | z
        · subst z; exact hx
        · exact h3 y z
    | _ => cases h
theorem ints_of : ∀ {vs : List V} {ds : List DV} {ss : List Int}, RelDs K F vs ds → ints? ds = some ss → vs = ss.map V.int
  | _, _, _, .nil, h => by cases h; rfl
  | _, _, _, .cons (ds := ds') r t, h => by
    cases r with
    | int x =>
      simp only [ints?] at h
      cases e : ints? ds' with
      | none => rw [e] at h; cases h
      | some q =>
        rw [e] at h
        cases h
        rw [ints_of t e]
        rfl
    | _ => cases h
theorem bls_of : ∀ {vs : List V} {ds : List DV} {ss : List Bool}, RelDs K F vs ds → bls? ds = some ss → vs = ss.map V.bl
  | _, _, _, .nil, h => by cases h; rfl
  | _, _, _, .cons (ds := ds') r t, h => by
    cases r with
    | bl x =>
      simp only [bls?] at h
      cases e : bls? ds' with
      | none => rw [e] at h; cases h
      | some q =>
        rw [e] at h
        cases h
        rw [bls_of t e]
        rfl
    | _ => cases h
theorem map_look1 {ds : List DV} {x : DV} (h : ds.map (look m) = [x]) : ∃ d, ds = [d] ∧ look m d = x := by
  match ds, h with
  | [d], h => exact ⟨d, rfl, by simpa using h⟩
theorem map_look2 {ds : List DV} {x y : DV} (h : ds.map (look m) = [x, y]) : ∃ d e, ds = [d, e] ∧ look m d = x ∧ look m e = y := by
  match ds, h with
  | [d, e], h => exact ⟨d, e, rfl, by simpa using h⟩
theorem rel1 {vs : List V} {d : DV} (r : RelDs K F vs [d]) : ∃ v, vs = [v] ∧ RelD K F v d := by
  cases r with
  | cons a b => cases b; exact ⟨_, rfl, a⟩
theorem rel2 {vs : List V} {d e : DV} (r : RelDs K F vs [d, e]) : ∃ v u, vs = [v, u] ∧ RelD K F v d ∧ RelD K F u e := by
  cases r with
  | cons a b => cases b with
    | cons c d => cases d; exact ⟨_, _, rfl, a, c⟩
end
def rLenAll (K : PySem.W.Frag) : List V → Hp → VK → Prop := fun xs H Q => ∃ x n, xs = [x] ∧ LenV K x H n ∧ Q (.int n) H
/-- is the built-in a class? -/
def bltTy : Blt → Bool
  | .int => true | .list => true | .tuple => true | .str => true | _ => false
def bltVal (b : Blt) : Value := if bltTy b then .type (match b with | .int => "int" | .list => "list" | .tuple => "tuple" | _ => "str") else .builtin (match b with | .len => "len" | .abs => "abs" | .sorted => "sorted" | .any => "any" | .all => "all" | .sum => "sum" | .max2 => "max" | _ => "min")
/-- a built-in that is served, its rule, and that it does what is told -/
structure BltOk (X : Cx) (b : Blt) : Prop where
  ex : ∃ r, CallR X (bltVal b) r ∧ ∀ {Z F H : Hp} {m : Mu} {vs : List V} {ds : List DV} {k : DV → Prop} {Q : VK}, Wf X.K Z F H m → RelDs X.K F vs ds → bltD b (ds.map (look m)) k → Fin X.K Z F m k Q → r vs H Q
theorem b_len : BltOk X .len := ⟨_, call_len, fun {Z F H m vs ds k Q} w r h q => by
  replace h : lenD _ _ := h
  unfold lenD at h
  split at h <;> try exact h.elim
  · rename_i e
    obtain ⟨d, rfl, e0⟩ := map_look1 e
    obtain ⟨v, rfl, rv⟩ := rel1 r
    obtain ⟨a, vs, rfl, hp, rs, _⟩ := w.lst rv e0
    refine ⟨_, _, rfl, .inl ⟨vs, SqL.of hp, rfl⟩, q _ _ H F (by rw [rs.length]; exact h) (Ext.refl Z F) w (.int _)⟩
  · rename_i e
    obtain ⟨d, rfl, e0⟩ := map_look1 e
    obtain ⟨v, rfl, rv⟩ := rel1 r
    obtain ⟨a, vs, rfl, _, hp, rs, _⟩ := w.tup rv e0
    refine ⟨_, _, rfl, .inr ⟨vs, SqT.of hp, rfl⟩, q _ _ H F (by rw [rs.length]; exact h) (Ext.refl Z F) w (.int _)⟩
  · rename_i e
    obtain ⟨d, rfl, e0⟩ := map_look1 e
    obtain ⟨v, rfl, rv⟩ := rel1 r
    obtain ⟨z, rfl, ez, _⟩ := Wf.str rv e0
    refine ⟨_, _, rfl, ⟨by rw [lenS, ez, ← LINE_eq]; exact h.1, rfl⟩, q _ _ H F (by rw [lenS, ez]; exact h.2) (Ext.refl Z F) w (.int _)⟩⟩
theorem b_abs : BltOk X .abs := ⟨_, call_abs, fun {Z F H m vs ds k Q} w r h q => by
  replace h : absD _ _ := h
  unfold absD at h
  split at h <;> try exact h.elim
  rename_i e
  obtain ⟨d, rfl, e0⟩ := map_look1 e
  obtain ⟨v, rfl, rv⟩ := rel1 r
  cases Wf.int rv e0
  exact ⟨_, rfl, q _ _ H F h (Ext.refl Z F) w (.int _)⟩⟩
theorem b_int : BltOk X .int := ⟨_, call_int1, fun {Z F H m vs ds k Q} w r h q => by
  replace h : intD _ _ := h
  unfold intD at h
  split at h <;> try exact h.elim
  · rename_i e
    obtain ⟨d, rfl, e0⟩ := map_look1 e
    obtain ⟨v, rfl, rv⟩ := rel1 r
    cases Wf.int rv e0
    exact .inl ⟨_, rfl, q _ _ H F h (Ext.refl Z F) w (.int _)⟩
  · rename_i e
    obtain ⟨d, rfl, e0⟩ := map_look1 e
    obtain ⟨v, rfl, rv⟩ := rel1 r
    cases Wf.bl rv e0
    exact .inr ⟨_, rfl, q _ _ H F h (Ext.refl Z F) w (.int _)⟩⟩
theorem b_tuple : BltOk X .tuple := ⟨_, call_tuple_of, fun {Z F H m vs ds k Q} w r h q => by
  replace h : tupleD _ _ := h
  unfold tupleD at h
  split at h <;> try exact h.elim
  · rename_i e
    obtain ⟨d, rfl, e0⟩ := map_look1 e
    obtain ⟨v, rfl, rv⟩ := rel1 r
    obtain ⟨a, vs, rfl, hp, rs, hl⟩ := w.lst rv e0
    refine ⟨a, vs, rfl, .inl ⟨SqL.of hp, fun l hl' => ?_⟩⟩
    obtain ⟨w', e'⟩ := w.new hl' (.tup vs)
    exact q _ _ _ _ h e' w' (.tup upd_same (rs.mono e'.sm) hl)
  · rename_i e
    obtain ⟨d, rfl, e0⟩ := map_look1 e
    obtain ⟨v, rfl, rv⟩ := rel1 r
    obtain ⟨a, vs, rfl, fp, hp, rs, hl⟩ := w.tup rv e0
    exact ⟨a, vs, rfl, .inr ⟨SqT.of hp, q _ _ _ _ h (Ext.refl Z F) w (.tup fp rs hl)⟩⟩⟩
theorem b_max (hc : X.calm = true) : BltOk X .max2 := ⟨_, call_max2 hc, fun {Z F H m vs ds k Q} w r h q => by
  replace h : maxD _ _ := h
  unfold maxD at h
  split at h <;> try exact h.elim
  rename_i e
  obtain ⟨d, d', rfl, e0, e'⟩ := map_look2 e
  obtain ⟨v, u, rfl, rv, ru⟩ := rel2 r
  cases Wf.int rv e0
  cases Wf.int ru e'
  exact ⟨_, _, rfl, q _ _ H F h (Ext.refl Z F) w (.int _)⟩⟩
theorem b_min (hc : X.calm = true) : BltOk X .min2 := ⟨_, call_min2 hc, fun {Z F H m vs ds k Q} w r h q => by
  replace h : minD _ _ := h
  unfold minD at h
  split at h <;> try exact h.elim
  rename_i e
  obtain ⟨d, d', rfl, e0, e'⟩ := map_look2 e
  obtain ⟨v, u, rfl, rv, ru⟩ := rel2 r
  cases Wf.int rv e0
  cases Wf.int ru e'
  exact ⟨_, _, rfl, q _ _ H F h (Ext.refl Z F) w (.int _)⟩⟩
theorem b_any (hc : X.calm = true) : BltOk X .any := ⟨_, cr_any hc, fun {Z F H m vs ds k Q} w r h q => by
  replace h : anyD _ _ := h
  unfold anyD at h
  split at h <;> try exact h.elim
  rename_i e
  obtain ⟨d, rfl, e0⟩ := map_look1 e
  obtain ⟨v, rfl, rv⟩ := rel1 r
  obtain ⟨a, vs, rfl, hp, rs, hl⟩ := w.lst rv e0
  obtain ⟨bs, hb, hk⟩ := h
  have ev := bls_of rs hb
  subst ev
  exact ⟨a, bs, rfl, SqL.of hp, q _ _ H F hk (Ext.refl Z F) w (.bl _)⟩⟩
theorem b_all (hc : X.calm = true) : BltOk X .all := ⟨_, cr_all hc, fun {Z F H m vs ds k Q} w r h q => by
  replace h : allD _ _ := h
  unfold allD at h
  split at h <;> try exact h.elim
  rename_i e
  obtain ⟨d, rfl, e0⟩ := map_look1 e
  obtain ⟨v, rfl, rv⟩ := rel1 r
  obtain ⟨a, vs, rfl, hp, rs, hl⟩ := w.lst rv e0
  obtain ⟨bs, hb, hk⟩ := h
  have ev := bls_of rs hb
  subst ev
  exact ⟨a, bs, rfl, SqL.of hp, q _ _ H F hk (Ext.refl Z F) w (.bl _)⟩⟩
theorem b_sum (hc : X.calm = true) : BltOk X .sum := ⟨_, cr_sum hc, fun {Z F H m vs ds k Q} w r h q => by
  replace h : sumD _ _ := h
  unfold sumD at h
  split at h <;> try exact h.elim
  rename_i e
  obtain ⟨d, rfl, e0⟩ := map_look1 e
  obtain ⟨v, rfl, rv⟩ := rel1 r
  obtain ⟨a, vs, rfl, hp, rs, hl⟩ := w.lst rv e0
  obtain ⟨bs, hb, hk⟩ := h
  have ev := ints_of rs hb
  subst ev
  exact ⟨a, bs, rfl, SqL.of hp, q _ _ H F hk (Ext.refl Z F) w (.int _)⟩⟩
/-- list(..) makes a new list -/
theorem call_list_new {Z F H : Hp} {m : Mu} {vs : List V} {ds : List DV} {k : DV → Prop} {Q : VK} (w : Wf X.K Z F H m) (r : RelDs X.K F vs ds) (h : bltD .list (ds.map (look m)) k)
    (q : ∀ d v H', k d → Wf X.K Z F H' m → FreshL X.K Z F H' m v d → Q v H') : ∃ p ys, vs = [.ref p] ∧ (SqL X.K H p ys ∨ SqT X.K H p ys) ∧ ∀ l, H l = none → Q (.ref l) (upd H l (.lst ys)) := by
  replace h : listD _ _ := h
  unfold listD at h
  split at h <;> try exact h.elim
  · rename_i e
    obtain ⟨d, rfl, e0⟩ := map_look1 e
    obtain ⟨v, rfl, rv⟩ := rel1 r
    obtain ⟨a, vs, rfl, hp, rs, hl⟩ := w.lst rv e0
    refine ⟨a, vs, rfl, .inl (SqL.of hp), fun l hn => ?_⟩
    obtain ⟨w', fr⟩ := w.fresh hn rs hl
    exact q _ _ _ h w' fr
  · rename_i e
    obtain ⟨d, rfl, e0⟩ := map_look1 e
    obtain ⟨v, rfl, rv⟩ := rel1 r
    obtain ⟨a, vs, rfl, _, hp, rs, hl⟩ := w.tup rv e0
    refine ⟨a, vs, rfl, .inr (SqT.of hp), fun l hn => ?_⟩
    obtain ⟨w', fr⟩ := w.fresh hn rs hl
    exact q _ _ _ h w' fr
  · rename_i e
    obtain ⟨d, rfl, e0⟩ := map_look1 e
    obtain ⟨v, rfl, rv⟩ := rel1 r
    obtain ⟨a, rfl, hp, hl⟩ := w.scr rv e0
    refine ⟨a, _, rfl, .inl hp, fun l hn => ?_⟩
    have rs : ∀ ns : List Int, RelDs X.K F (ns.map V.int) (ns.map DV.int) := fun ns => by
      induction ns with
      | nil => exact .nil
      | cons n t ih => exact .cons (.int n) ih
    obtain ⟨w', fr⟩ := w.fresh hn (rs _) (by rw [List.length_map]; exact hl)
    exact q _ _ _ h w' fr
theorem b_list : BltOk X .list := ⟨_, call_list_of, fun {Z F H m vs ds k Q} w r h q => call_list_new w r h fun d v H' hk w' fr => by
  obtain ⟨p, vs, ds, rfl, rfl, hp, hf, hz, hm, rs, hl⟩ := fr
  obtain ⟨w2, e2⟩ := w'.freeze hp hf hz hm
  exact q _ _ H' _ hk e2 w2 (.lst upd_same (rs.mono e2.sm) hl)⟩
def served (b : Blt) : Bool := match b with
  | .sorted => false | .str => false | _ => true
theorem blt_ok (hc : X.calm = true) : ∀ b, served b = true → BltOk X b
  | .len, _ => b_len | .abs, _ => b_abs | .int, _ => b_int | .list, _ => b_list | .tuple, _ => b_tuple | .any, _ => b_any hc | .all, _ => b_all hc | .sum, _ => b_sum hc | .max2, _ => b_max hc | .min2, _ => b_min hc
theorem boot_blt (b : Blt) : bootBuiltins (bltName b) = some (bltVal b) := by cases b <;> decide +kernel
theorem s_blt {bb : Blt} {es : List Expr} {ms : Exs} (hc : X.calm = true) (hs : served bb = true) (hgl : Gl X (bltName bb)) (hm : X.mg (bltName bb) = none) (ha : PA X (a :: es) (tLA X.K G fld W ms))
    (he : starEach (a :: es) X.env = (false, eval a X.env) :: starEach es X.env) (hpl : (backTo pos (starEach es X.env)).any (·.1) = false) :
    PE X (.Call (.Name (bltName bb) p) (a :: es) [] pos) (tL X.K G fld W (.blt bb ms)) := by
  obtain ⟨r, hr, ok⟩ := (blt_ok (X := X) hc bb hs).ex
  have key : ∀ σ H Q, tL X.K G fld W (.blt bb ms) σ H Q → tCB r (tLA X.K G fld W ms) σ H Q := fun σ H Q ⟨r, m, Z, F, Qd, Ed, w, sl, hq, post, xp⟩ => by
    simp only [rdE] at hq
    refine ⟨r, m, Z, F, _, Ed, w, sl, hq, fun d1 m1 v1 H1 F1 q1 e1 w1 r1 => ?_, xp⟩
    exact ok w1 r1 q1 fun d v H' F' hk e' w' r' => post d m1 v H' F' hk (e1.trans e') w' r'
  have hv := boot_blt bb
  have hn : bltName bb ≠ "__name__" := by cases bb <;> decide +kernel
  have hdb : (bltName bb == ("__debug__" : PySem.Str)) = false := by cases bb <;> decide +kernel
  unfold bltVal at hr hv
  by_cases ht : bltTy bb = true
  · rw [if_pos ht] at hr hv
    exact PEimp (pe_callTy hr hgl hm hv ha hn hdb he hpl) key
  · rw [if_neg ht] at hr hv
    exact PEimp (pe_callB hr hgl hm hv ha hn hdb he hpl) key
end
end DL

set_option Elab.async false
set_option linter.all false
set_option maxRecDepth 100000
set_option maxHeartbeats 2000000
namespace DL
open PySem L2
section
variable {X : Cx} {G : Nat → Option Fn} {fld : Addr → PySem.Str} {W : WX} {a b c : Expr} {ma mb mc : Ex} {pos p : Pos}
/-! ### isinstance -/
def kName : Kind → String
  | .int => "int" | .bool => "bool" | .str => "str" | .tuple => "tuple" | .list => "list" | .dict => "dict" | .ins _ => "object"
def kStr : Kind → PySem.Str
  | .int => "int" | .bool => "bool" | .str => "str" | .tuple => "tuple" | .list => "list" | .dict => "dict" | .ins _ => "object"
def kPlain : Kind → Bool
  | .ins _ => false
  | _ => true
theorem boot_kind (k : Kind) (h : kPlain k = true) : bootBuiltins (kStr k) = some (.type (kName k)) := by cases k <;> first | (cases h; done) | decide +kernel
theorem isi_ok {K : PySem.W.Frag} {Z F H : Hp} {m : Mu} {v : V} {d : DV} {k : Kind} {q : Bool} (w : Wf K Z F H m) (r : RelD K F v d) (hk : kPlain k = true) (h : isiD k (look m d) = some q) : ∃ t, TyX K H v (.type t) ∧ kitB t (kName k) = some q := by
  cases e : look m d with
  | non => rw [e] at h; cases Wf.non r e; refine ⟨_, .base .non, ?_⟩; cases k <;> first | (cases hk; done) | (cases h; decide +kernel)
  | bl b => rw [e] at h; cases Wf.bl r e; refine ⟨_, .base (.bl b), ?_⟩; cases k <;> first | (cases hk; done) | (cases h; decide +kernel)
  | int b => rw [e] at h; cases Wf.int r e; refine ⟨_, .base (.int b), ?_⟩; cases k <;> first | (cases hk; done) | (cases h; decide +kernel)
  | str b => rw [e] at h; obtain ⟨x, rfl, _⟩ := Wf.str r e; refine ⟨_, .base (.str x), ?_⟩; cases k <;> first | (cases hk; done) | (cases h; decide +kernel)
  | tup b => rw [e] at h; obtain ⟨x, vs, rfl, _, hx, _⟩ := w.tup r e; refine ⟨_, .base (.tup hx), ?_⟩; cases k <;> first | (cases hk; done) | (cases h; decide +kernel)
  | lst b => rw [e] at h; obtain ⟨x, vs, rfl, hx, _⟩ := w.lst r e; refine ⟨_, .base (.lst hx), ?_⟩; cases k <;> first | (cases hk; done) | (cases h; decide +kernel)
  | dic b =>
    rw [e] at h
    have key : ∃ x vs, v = .ref x ∧ Rd H x (.dK vs) := by
      cases r with
      | dic hf rs =>
        cases e
        exact ⟨_, _, rfl, Rd.same w.sf hf⟩
      | loc x =>
        unfold look at e
        simp only at e
        split at e <;> try cases e
        rename_i e0
        obtain ⟨_, _, vs, h1, h2⟩ := w.ob _ _ e0
        exact ⟨_, vs, rfl, .inl h1⟩
      | _ => cases e
    obtain ⟨x, vs, rfl, hx⟩ := key
    refine ⟨"dict", ?_, ?_⟩
    · rcases hx with hx | ⟨o, hx⟩
      · exact .base (.dK hx)
      · exact .fDict hx
    · cases k <;> first | (cases hk; done) | (cases h; decide +kernel)
  | dit b => rw [e] at h; cases h
  | ins _ _ => rw [e] at h; cases h
  | loc _ => rw [e] at h; cases h
  | scr _ => rw [e] at h; cases h
theorem s_isi {k : Kind} {pT : Pos} (hk : kPlain k = true) (hgl : Gl X "isinstance") (hm : X.mg "isinstance" = none) (hgT : Gl X (kStr k)) (hmT : X.mg (kStr k) = none) (ha : PE X a (tL X.K G fld W ma))
    (he : starEach [a, .Name (kStr k) pT] X.env = (false, eval a X.env) :: starEach [.Name (kStr k) pT] X.env) :
    PE X (.Call (.Name "isinstance" p) [a, .Name (kStr k) pT] [] pos) (tL X.K G fld W (.isi ma k)) := by
  have hT : PE X (.Name (kStr k) pT) (tC (.ty (kName k))) := pe_bltn hgT hmT (boot_kind k hk) rfl (by cases k <;> first | (cases hk; done) | decide +kernel) (by cases k <;> first | (cases hk; done) | decide +kernel)
  refine PEimp (pe_callB call_isi hgl hm (by decide +kernel) (pa_cons ha (pa_cons hT pa_nil) he) (by decide +kernel) (by decide +kernel) he) fun σ H Q ⟨r, m, Z, F, Qd, Ed, w, sl, hq, post, xp⟩ => ?_
  simp only [rdE] at hq
  refine ⟨r, m, Z, F, _, Ed, w, sl, hq, fun d1 m1 v1 H1 F1 q1 e1 w1 r1 => ?_, xp⟩
  obtain ⟨q, hi, hq⟩ := q1
  obtain ⟨t, ty, kb⟩ := isi_ok w1 r1 hk hi
  exact ⟨_, _, _, _, q, rfl, .ty _, ty, kit_ty kb, post _ m1 _ H1 F1 hq e1 w1 (.bl q)⟩
/-! ### methods -/
theorem s_append {m0 : Ex} {apos : Pos} (ho : PE X a (tL X.K G fld W m0)) (hb : PE X b (tL X.K G fld W mb))
    (hbase : attributeBase a "append" X.env (eval a X.env) = eval a X.env) (hs : starEach [b] X.env = [(false, eval b X.env)]) (hline : (apos.endLine == pos.line) = true) :
    PE X (.Call (.Attribute a "append" apos) [b] [] pos) (tL X.K G fld W (.met .append m0 (.cons mb .nil))) := by
  refine PEimp (pe_bm PySem.F.plainAttrs_list PySem.F.slot_list_append PySem.F.type_list_append mt_append ho (pa_cons hb pa_nil hs) hbase (by rw [hs]; rfl) hline hs (by rfl)) fun σ H Q ⟨r, m, Z, F, Qd, Ed, w, sl, hq, post, xp⟩ => ?_
  simp only [rdE, rdA] at hq
  refine ⟨r, m, Z, F, _, Ed, w, sl, hq, fun d1 m1 v1 H1 F1 q1 e1 w1 r1 => ?_, xp⟩
  obtain ⟨hm, q1⟩ := q1
  cases e : look m1 d1 with
  | lst xs =>
    obtain ⟨l, vs, rfl, hl, _⟩ := w1.lst r1 e
    refine ⟨.inl ⟨rfl, vs, SqL.of hl⟩, ?_⟩
    refine ⟨r, m1, Z, F1, _, Ed, w1, sl.mono e1.sm, q1, fun d2 m2 v2 H2 F2 q2 e2 w2 r2 => ?_, xp.ext e1⟩
    replace q2 : appendD _ _ _ _ := q2
    unfold appendD at q2
    split at q2
    · rename_i l' dd e2'
      cases e2'
      obtain ⟨xs, hx, hlen, hk⟩ := q2
      cases r1
      obtain ⟨hf, hz, vs, h1, h2, h3⟩ := w2.ob _ _ hx
      refine ⟨l, vs, v2, rfl, rfl, h1, by rw [h2.length, ← LINE_eq]; exact hlen, ?_⟩
      refine post _ _ _ _ F2 hk (e1.trans e2) (w2.set hx ⟨vs ++ [v2], upd_same, h2.append (.cons r2 .nil), ?_⟩) .non
      rw [List.length_append, h2.length]
      show xs.length + 1 ≤ LINE
      omega
    · exact q2.elim
  | _ => rw [e] at hm; cases hm
theorem s_pop {m0 : Ex} {apos : Pos} (ho : PE X a (tL X.K G fld W m0)) (hb : PE X b (tL X.K G fld W mb))
    (hbase : attributeBase a "pop" X.env (eval a X.env) = eval a X.env) (hs : starEach [b] X.env = [(false, eval b X.env)]) (hline : (apos.endLine == pos.line) = true) :
    PE X (.Call (.Attribute a "pop" apos) [b] [] pos) (tL X.K G fld W (.met .pop m0 (.cons mb .nil))) := by
  refine PEimp (pe_bm PySem.F.plainAttrs_list PySem.F.slot_list_pop PySem.F.type_list_pop mt_popAt ho (pa_cons hb pa_nil hs) hbase (by rw [hs]; rfl) hline hs (by rfl)) fun σ H Q ⟨r, m, Z, F, Qd, Ed, w, sl, hq, post, xp⟩ => ?_
  simp only [rdE, rdA] at hq
  refine ⟨r, m, Z, F, _, Ed, w, sl, hq, fun d1 m1 v1 H1 F1 q1 e1 w1 r1 => ?_, xp⟩
  obtain ⟨hm, q1⟩ := q1
  cases e : look m1 d1 with
  | lst xs =>
    obtain ⟨l, vs, rfl, hl, _⟩ := w1.lst r1 e
    refine ⟨.inl ⟨rfl, vs, SqL.of hl⟩, ?_⟩
    refine ⟨r, m1, Z, F1, _, Ed, w1, sl.mono e1.sm, q1, fun d2 m2 v2 H2 F2 q2 e2 w2 r2 => ?_, xp.ext e1⟩
    replace q2 : popD _ _ _ _ := q2
    unfold popD at q2
    split at q2
    · rename_i l' dd e2'
      cases e2'
      obtain ⟨xs, j, x, hx, hi, hj, hk⟩ := q2
      cases r1
      cases r2
      obtain ⟨hf, hz, vs, h1, h2, h3⟩ := w2.ob _ _ hx
      obtain ⟨y, hy, ry⟩ := h2.get hj
      have hi' : ixN vs.length dd = some j := by rw [h2.length]; exact hi
      obtain ⟨sq, hjn, lo, hi2⟩ := ixN_seq hi'
      have hz2 : (vs.length : Int) < 2 ^ 62 := by
        have : vs.length ≤ 16777216 := h3
        omega
      refine ⟨l, vs, dd, j, y, rfl, rfl, h1, by omega, by omega, sq, hy, ?_⟩
      refine post _ _ _ _ F2 hk (e1.trans e2) (w2.set hx ⟨vs.eraseIdx j, upd_same, h2.eraseIdx j, ?_⟩) ry
      exact Nat.le_trans (List.length_eraseIdx_le ..) h3
    · exact q2.elim
  | _ => rw [e] at hm; cases hm
theorem sjoin_joinL (s : S) : ∀ ss : List S, sjoin s ss = TL.joinL s ss
  | [] => rfl
  | [_] => rfl
  | x :: y :: r => by
    simp only [sjoin, TL.joinL]
    rw [sjoin_joinL s (y :: r), List.append_assoc]
theorem s_join {m0 : Ex} {apos : Pos} (ho : PE X a (tL X.K G fld W m0)) (hb : PE X b (tL X.K G fld W mb))
    (hbase : attributeBase a "join" X.env (eval a X.env) = eval a X.env) (hs : starEach [b] X.env = [(false, eval b X.env)]) (hline : (apos.endLine == pos.line) = true) :
    PE X (.Call (.Attribute a "join" apos) [b] [] pos) (tL X.K G fld W (.met .join m0 (.cons mb .nil))) := by
  refine PEimp (pe_bm PySem.F.plainAttrs_str PySem.F.slot_str_join PySem.F.type_str_join mt_join ho (pa_cons hb pa_nil hs) hbase (by rw [hs]; rfl) hline hs (by rfl)) fun σ H Q ⟨r, m, Z, F, Qd, Ed, w, sl, hq, post, xp⟩ => ?_
  simp only [rdE, rdA] at hq
  refine ⟨r, m, Z, F, _, Ed, w, sl, hq, fun d1 m1 v1 H1 F1 q1 e1 w1 r1 => ?_, xp⟩
  obtain ⟨hm, q1⟩ := q1
  cases e : look m1 d1 with
  | str xs =>
    obtain ⟨z, rfl, ez, cz⟩ := Wf.str r1 e
    refine ⟨rfl, ?_⟩
    refine ⟨r, m1, Z, F1, _, Ed, w1, sl.mono e1.sm, q1, fun d2 m2 v2 H2 F2 q2 e2 w2 r2 => ?_, xp.ext e1⟩
    replace q2 : joinD _ _ _ _ := q2
    unfold joinD at q2
    split at q2
    · rename_i s' dd e2'
      cases e2'
      cases e
      obtain ⟨ys, hy, ss, hss, hlen, hk⟩ := q2
      have fin : ∀ (p : Addr) (vs : List V), RelDs X.K F2 vs ys → v2 = .ref p → (SqL X.K H2 p vs ∨ SqT X.K H2 p vs) → ∃ a p, ∃ ys : List PySem.Str, V.str z = .str a ∧ [v2] = [.ref p] ∧ (SqL X.K H2 p (ys.map V.str) ∨ SqT X.K H2 p (ys.map V.str)) ∧
          (ys.map (·.length)).sum + ys.length * a.length ≤ 16777216 ∧ Q (.str (Txt.join a ys)) H2 := fun p vs rs ev hsq => by
        obtain ⟨ws, e3, e4, e5⟩ := strs_of rs hss
        subst e3
        have el : (ws.map (·.length)) = ss.map List.length := by
          rw [e4, List.map_map]
          exact List.map_congr_left fun y _ => lenS y
        refine ⟨z, p, ws, rfl, by rw [ev], hsq, ?_, ?_⟩
        · rw [el, lenS, ez]
          have : ws.length = ss.length := by rw [e4, List.length_map]
          rw [this]
          exact hlen
        · refine post _ m2 _ H2 F2 hk (e1.trans e2) w2 ?_
          have ej : (Txt.join z ws).cps.toList = sjoin xs ss := by
            rw [TL.join_eq, sjoin_joinL, e4, ← ez]
            exact TL.tl_join z ws
          rw [← ej]
          refine .str _ fun c hc => ?_
          rw [ej, sjoin_joinL] at hc
          have hall : ∀ (ss : List S), (∀ x ∈ ss, ∀ c ∈ x, c < 0x110000) → ∀ c ∈ TL.joinL xs ss, c < 0x110000 := by
            intro ss
            induction ss with
            | nil => intro _ c hc; cases hc
            | cons x t ih =>
              intro hx c hc
              cases t with
              | nil => exact hx x List.mem_cons_self c hc
              | cons y t =>
                have hc : c ∈ x ++ (xs ++ TL.joinL xs (y :: t)) := hc
                rcases List.mem_append.mp hc with h | h
                · exact hx x List.mem_cons_self c h
                · rcases List.mem_append.mp h with h | h
                  · exact cz c h
                  · exact ih (fun x hx' => hx x (List.mem_cons_of_mem _ hx')) c h
          refine hall ss (fun x hx c hc => ?_) c hc
          rw [e4] at hx
          obtain ⟨y, hy, rfl⟩ := List.mem_map.mp hx
          exact e5 y hy c hc
      rcases hy with hy | hy
      · obtain ⟨p, vs, rfl, hp, rs, _⟩ := w2.lst r2 hy
        exact fin p vs rs rfl (.inl (SqL.of hp))
      · obtain ⟨p, vs, rfl, _, hp, rs, _⟩ := w2.tup r2 hy
        exact fin p vs rs rfl (.inr (SqT.of hp))
    · exact q2.elim
  | _ => rw [e] at hm; cases hm
/-! ### frozen for good -/
theorem s_frz (ha : PE X a (tL X.K G fld W ma)) : PE X a (tL X.K G fld W (.frz ma)) := by
  refine PEimp ha fun σ H Q ⟨r, m, Z, F, Qd, Ed, w, sl, hq, post, xp⟩ => ?_
  simp only [rdE] at hq
  refine ⟨r, m, Z, F, _, Ed, w, sl, hq, fun d1 m1 v1 H1 F1 q1 e1 w1 r1 => ?_, xp⟩
  have key : ∀ (q : Addr) (o : DO) (u : HO), m1 q = some o → H1 q = some u → Wf X.K Z (upd F1 q u) H1 (m1.del q) ∧ Ext Z F1 (upd F1 q u) := fun q o u h1 h2 => by
    obtain ⟨hf, hz, _⟩ := w1.ob q o h1
    have w' : Wf X.K Z F1 H1 (m1.del q) := ⟨w1.sf, w1.sz, fun b x e => by
      unfold Mu.del at e
      by_cases hb : b = q
      · rw [if_pos hb] at e; cases e
      · rw [if_neg hb] at e; exact w1.ob b x e⟩
    exact w'.freeze h2 hf hz (by unfold Mu.del; rw [if_pos rfl])
  unfold frzD at q1
  split at q1
  · rename_i q
    cases r1
    split at q1
    · rename_i xs hx
      obtain ⟨_, _, vs, h1, h2, h3⟩ := w1.ob _ _ hx
      obtain ⟨w2, e2⟩ := key _ _ _ hx h1
      exact post _ _ _ H1 _ q1 (e1.trans e2) w2 (.lst upd_same (h2.mono e2.sm) h3)
    · rename_i xs hx
      obtain ⟨_, _, vs, h1, h2⟩ := w1.ob _ _ hx
      obtain ⟨w2, e2⟩ := key _ _ _ hx h1
      exact post _ _ _ H1 _ q1 (e1.trans e2) w2 (.dic (.inl upd_same) (h2.mono e2.sm))
    · rename_i xs hx
      obtain ⟨_, _, vs, h1, h2⟩ := w1.ob _ _ hx
      obtain ⟨w2, e2⟩ := key _ _ _ hx h1
      exact post _ _ _ H1 _ q1 (e1.trans e2) w2 (.dit (.inl upd_same) (h2.mono e2.sm))
    · exact q1.elim
  · exact q1.elim
end
end DL

set_option Elab.async false
set_option linter.all false
set_option maxRecDepth 100000
set_option maxHeartbeats 2000000
namespace DL
open PySem L2
/-! ### targets -/
def gP (K : PySem.W.Frag) : Pat → TG
  | .name i => gName i
  | .pair a b => gTup K 2 (gCons (gP K a) (gCons (gP K b) gNil))
def pslots : Pat → List Nat
  | .name i => [i]
  | .pair a b => pslots a ++ pslots b
theorem wipe_set (σ : L2.St) (i : Nat) (x : Option V) : ∀ vs : List Nat, wipe (σ.set i x) vs = if i ∈ vs then wipe σ vs else (wipe σ vs).set i x
  | [] => by simp [wipe]
  | v :: vs => by
    unfold wipe
    rw [wipe_set σ i x vs]
    by_cases h : i ∈ vs
    · rw [if_pos h, if_pos (List.mem_cons_of_mem _ h)]
    · rw [if_neg h]
      by_cases e : i = v
      · subst e
        rw [if_pos List.mem_cons_self, List.set_set]
      · rw [if_neg (by simp [e, h]), List.set_comm _ _ (fun z => e z)]
theorem pat_ok {K : PySem.W.Frag} {Z F H : Hp} {m : Mu} (w : Wf K Z F H m) : ∀ (p : Pat) {d : DV} {v : V} {r : Env} {σ : L2.St} {k : Env → Prop} {Q : L2.St → Hp → Prop}, bindP p d r m k → RelD K F v d → Slots K F σ r →
    (∀ σ' r', Slots K F σ' r' → (∀ vs, (∀ i ∈ pslots p, i ∈ vs) → wipe σ' vs = wipe σ vs) → k r' → Q σ' H) → gP K p v σ H Q
  | .name i, d, v, r, σ, k, Q, h, rv, sl, q => by
    refine q _ _ (sl.set i rv) (fun vs hv => ?_) h.2
    rw [wipe_set, if_pos (hv i List.mem_cons_self)]
  | .pair a b, d, v, r, σ, k, Q, h, rv, sl, q => by
    simp only [bindP] at h
    split at h
    · rename_i x y e
      obtain ⟨t, vs, rfl, _, ht, rs, _⟩ := w.tup rv e
      cases rs with
      | cons r1 rs => cases rs with
        | cons r2 rs =>
          cases rs
          refine ⟨t, _, rfl, SqT.of ht, rfl, _, _, rfl, ?_⟩
          refine pat_ok w a h r1 sl fun σ1 q1 s1 w1 h1 => ?_
          refine ⟨_, _, rfl, ?_⟩
          refine pat_ok w b h1 r2 s1 fun σ2 q2 s2 w2 h2 => ⟨rfl, ?_⟩
          refine q σ2 q2 s2 (fun vs hv => ?_) h2
          rw [w2 vs fun i hi => hv i (List.mem_append_right _ hi), w1 vs fun i hi => hv i (List.mem_append_left _ hi)]
    · exact h.elim
/-! ### what is walked -/
def ItR (K : PySem.W.Frag) (F' : Hp) (src : Mu → Prop) (xs : List DV) (J : L2.It) : Prop :=
  ∀ Z m H F, Same F' F → Wf K Z F H m → src m → ∀ i,
    (i < xs.length → J.go i H ∧ ∀ x H1, J.yld i H x H1 → ∃ F1 d, Ext Z F F1 ∧ Wf K Z F1 H1 m ∧ xs[i]? = some d ∧ RelD K F1 x d) ∧ (xs.length ≤ i → J.stop i H)
section
variable (K : PySem.W.Frag) (G : Nat → Option Fn) (fld : Addr → PySem.Str)
def tLW (W : WX) (e : It) : TI := fun σ H R => ∃ r m Z F Qd Ed, Wf K Z F H m ∧ Slots K F σ r ∧ rdW G e r m Qd Ed ∧
  (∀ src xs m' H' F' J, Qd src xs m' → Ext Z F F' → Wf K Z F' H' m' → ItR K F' src xs J → (isRng e = false → xs.length ≤ LINE) → R J H') ∧ XOk K fld W Z F σ Ed
end
section
variable {X : Cx} {G : Nat → Option Fn} {fld : Addr → PySem.Str} {W : WX} {a b c : Expr} {ma mb mc : Ex} {pos p : Pos} {tg : Expr}
theorem PIimp {e : Expr} {t t' : TI} (h : PI X tg e t) (i : ∀ σ H Q, t' σ H Q → t σ H Q) : PI X tg e t' := ⟨fun pins s σ H Q I q => h.run pins s σ H Q I (i σ H Q q)⟩
/-- a list, a tuple, a text -/
theorem pi_seq {e : Expr} {te : TE} (he : PE X e te) : PI X tg e (fun σ H R => te σ H fun x H1 => (∃ a, x = .ref a ∧ (∃ xs, SqL X.K H1 a xs) ∧ R (Itl X.K a) H1) ∨ (∃ a, x = .ref a ∧ (∃ xs, SqT X.K H1 a xs) ∧ R (Itt X.K a) H1) ∨ ∃ z, x = .str z ∧ R (L2.Its z) H1) := by
  refine ⟨fun pins s σ H R I h => ?_⟩
  refine thn (he.run pins s σ H _ I h) fun v s1 ⟨x, H1, I1, r1, q1⟩ => ?_
  rcases q1 with ⟨a, e, ⟨xs, hq⟩, q⟩ | ⟨a, e, ⟨xs, hq⟩, q⟩ | ⟨z, e, q⟩
  · subst e
    cases r1
    obtain ⟨its, rv, p, hz⟩ := I1.list hq
    refine wpAny_pyIter_list p.isList ?_
    exact pi_one (tk := s1.toks) I1 _ (turn_list a _) ⟨_, Heap.get?_push_size _ rfl, rfl, rfl⟩ q
  · subst e
    cases r1
    obtain ⟨its, rv, p, hz⟩ := I1.tuple hq
    refine wpAny_pyIter_tuple (show s1.heap.IsTuple a its.toArray from p) ?_
    exact pi_one (tk := s1.toks) I1 _ (turn_tuple a _) ⟨_, Heap.get?_push_size _ rfl, rfl, rfl⟩ q
  · subst e
    obtain ⟨t, rfl⟩ := r1
    cases ha : z.cps.all (· < 128)
    · exact wpAny_pyIter_wide ha (pi_one (tk := s1.toks) I1 _ (turn_str _ z t "str_iterator" (.inr rfl)) ⟨_, Heap.get?_push_size _ rfl, rfl, rfl⟩ q)
    · exact wpAny_pyIter_ascii ha (pi_one (tk := s1.toks) I1 _ (turn_str _ z t "str_ascii_iterator" (.inl rfl)) ⟨_, Heap.get?_push_size _ rfl, rfl, rfl⟩ q)
theorem itl_ok {K : PySem.W.Frag} {F' : Hp} {v : V} {x : DV} {a : Addr} {xs : List DV} (r : RelD K F' v x) (ev : v = .ref a) : ItR K F' (fun m => look m x = .lst xs) xs (Itl K a) := by
  intro Z m H F e w hs i
  obtain ⟨b, vs, h0, h1, h2, _⟩ := w.lst (r.mono e) hs
  rw [ev] at h0
  cases h0
  refine ⟨fun hi => ?_, fun hi => ⟨vs, SqL.of h1, by rw [h2.length]; exact hi⟩⟩
  obtain ⟨y, hy, ry⟩ := h2.get (List.getElem?_eq_getElem hi)
  refine ⟨⟨vs, y, SqL.of h1, hy⟩, fun x' H1 hy' => ?_⟩
  obtain ⟨rfl, hx⟩ := hy'
  have z := hx vs (SqL.of h1)
  rw [hy] at z
  cases z
  exact ⟨F, xs[i], Ext.refl Z F, w, List.getElem?_eq_getElem hi, ry⟩
theorem itt_ok {K : PySem.W.Frag} {F' : Hp} {v : V} {x : DV} {a : Addr} {xs : List DV} (r : RelD K F' v x) (ev : v = .ref a) : ItR K F' (fun m => look m x = .tup xs) xs (Itt K a) := by
  intro Z m H F e w hs i
  obtain ⟨b, vs, h0, _, h1, h2, _⟩ := w.tup (r.mono e) hs
  rw [ev] at h0
  cases h0
  refine ⟨fun hi => ?_, fun hi => ⟨vs, SqT.of h1, by rw [h2.length]; exact hi⟩⟩
  obtain ⟨y, hy, ry⟩ := h2.get (List.getElem?_eq_getElem hi)
  refine ⟨⟨vs, y, SqT.of h1, hy⟩, fun x' H1 hy' => ?_⟩
  obtain ⟨rfl, hx⟩ := hy'
  have z := hx vs (SqT.of h1)
  rw [hy] at z
  cases z
  exact ⟨F, xs[i], Ext.refl Z F, w, List.getElem?_eq_getElem hi, ry⟩
theorem its_ok {K : PySem.W.Frag} {F' : Hp} {z : PySem.Str} (hz : ∀ c ∈ z.cps.toList, c < 0x110000) {src : Mu → Prop} : ItR K F' src (z.cps.toList.map fun c => .str [c]) (L2.Its z) := by
  intro Z m H F e w hs i
  refine ⟨fun hi => ?_, fun hi => ?_⟩
  · rw [List.length_map] at hi
    refine ⟨show i < z.cps.size by simpa using hi, fun x' H1 hy' => ?_⟩
    obtain ⟨rfl, c, hc, rfl⟩ := hy'
    have hc2 : z.cps.toList[i]? = some c := by simpa using hc
    refine ⟨F, .str [c], Ext.refl Z F, w, by rw [List.getElem?_map, hc2]; rfl, ?_⟩
    have h := RelD.str (K := K) (F := F) ⟨#[c]⟩ (fun c' hc' => by
      have : c' = c := by simpa using hc'
      rw [this]; exact hz c (List.mem_of_getElem? hc2))
    exact h
  · rw [List.length_map] at hi
    show z.cps.size ≤ i
    simpa using hi
theorem itr_ok {K : PySem.W.Frag} {F' : Hp} {lo : Int} {n : Nat} {src : Mu → Prop} : ItR K F' src (rangeL lo n 1) (Itr lo n) := by
  intro Z m H F e w hs i
  have hl : (rangeL lo n 1).length = n := by unfold rangeL; rw [List.length_map, List.length_range]
  rw [hl]
  refine ⟨fun hi => ⟨hi, fun x' H1 hy' => ?_⟩, fun hi => hi⟩
  obtain ⟨rfl, rfl⟩ := hy'
  refine ⟨F, .int (lo + i), Ext.refl Z F, w, ?_, .int _⟩
  unfold rangeL
  rw [List.getElem?_map, List.getElem?_range hi]
  simp
theorem itc_ok {K : PySem.W.Frag} {F' : Hp} {lo c : Int} {n : Nat} {src : Mu → Prop} : ItR K F' src (rangeL lo n c) (Itc lo c n) := by
  intro Z m H F e w hs i
  have hl : (rangeL lo n c).length = n := by unfold rangeL; rw [List.length_map, List.length_range]
  rw [hl]
  refine ⟨fun hi => ⟨hi, fun x' H1 hy' => ?_⟩, fun hi => hi⟩
  obtain ⟨rfl, rfl⟩ := hy'
  refine ⟨F, .int (lo + i * c), Ext.refl Z F, w, ?_, .int _⟩
  unfold rangeL
  rw [List.getElem?_map, List.getElem?_range hi]
  simp
theorem items_cases {d : DV} {xs : List DV} (h : itemsD d = some xs) : d = .lst xs ∨ d = .tup xs ∨ (∃ s, d = .str s ∧ xs = s.map fun c => .str [c]) ∨ ∃ ns : List Int, d = .scr ns ∧ xs = ns.map .int := by
  cases d <;> simp_all [itemsD]
theorem ItR.imp {K : PySem.W.Frag} {F' : Hp} {src src' : Mu → Prop} {xs : List DV} {J : L2.It} (h : ItR K F' src xs J) (i : ∀ m, src' m → src m) : ItR K F' src' xs J := fun Z m H F e w s => h Z m H F e w (i m s)
theorem s_seq (ha : PE X a (tL X.K G fld W ma)) : PI X tg a (tLW X.K G fld W (.seq ma)) := by
  refine PIimp (pi_seq ha) fun σ H R ⟨r, m, Z, F, Qd, Ed, w, sl, hq, post, xp⟩ => ?_
  simp only [rdW] at hq
  refine ⟨r, m, Z, F, _, Ed, w, sl, hq, fun d1 m1 v1 H1 F1 q1 e1 w1 r1 => ?_, xp⟩
  obtain ⟨xs, hx, hsl, hk⟩ := q1
  rcases items_cases hx with hy | hy | ⟨s, hy, rfl⟩ | ⟨ns, hy, rfl⟩
  · obtain ⟨l, vs, rfl, hl, rs, hlen⟩ := w1.lst r1 hy
    refine .inl ⟨l, rfl, ⟨vs, SqL.of hl⟩, post _ _ m1 H1 F1 _ hk e1 w1 ?_ (fun _ => by rw [← rs.length]; exact hlen)⟩
    intro Z m H F e w hs
    -- the thing at d1 is a list, now and ever
    have hs' : look m d1 = .lst xs := by
      rcases items_cases hs with h | h | ⟨s, h, _⟩ | ⟨ns, h, _⟩
      · exact h
      · obtain ⟨l', _, h0, _, ht, _⟩ := w.tup (r1.mono e) h
        cases h0
        cases d1 with
        | loc q => unfold look at h; simp only at h; split at h <;> cases h
        | _ => rw [look_of rfl] at h hy; rw [h] at hy; cases hy
      · obtain ⟨_, h0, _⟩ := Wf.str (r1.mono e) h
        cases h0
      · cases d1 with
        | loc q => unfold look at h; simp only at h; split at h <;> cases h
        | _ => rw [look_of rfl] at h hy; rw [h] at hy; cases hy
    exact itl_ok r1 rfl Z m H F e w hs'
  · obtain ⟨l, vs, rfl, _, hl, rs, hlen⟩ := w1.tup r1 hy
    refine .inr (.inl ⟨l, rfl, ⟨vs, SqT.of hl⟩, post _ _ m1 H1 F1 _ hk e1 w1 ?_ (fun _ => by rw [← rs.length]; exact hlen)⟩)
    intro Z m H F e w hs
    have hs' : look m d1 = .tup xs := by
      cases d1 with
      | loc q => unfold look at hy; simp only at hy; split at hy <;> cases hy
      | _ => rw [look_of rfl] at hy ⊢; exact hy
    exact itt_ok r1 rfl Z m H F e w hs'
  · obtain ⟨z, rfl, ez, cz⟩ := Wf.str r1 hy
    refine .inr (.inr ⟨z, rfl, post _ _ m1 H1 F1 _ hk e1 w1 ?_ ?_⟩)
    · rw [← ez]
      exact its_ok (by rw [ez]; exact cz)
    · intro _
      rw [List.length_map]
      exact hsl _ hy
  · obtain ⟨l, rfl, hl, hlen⟩ := w1.scr r1 hy
    refine .inl ⟨l, rfl, ⟨_, hl⟩, post _ _ m1 H1 F1 _ hk e1 w1 ?_ (fun _ => by rw [List.length_map]; exact hlen)⟩
    have hF : SqL X.K F1 l (ns.map V.int) := by
      cases r1 with
      | scr h _ => rw [look_of rfl] at hy; cases hy; exact h
      | loc a => unfold look at hy; simp only at hy; split at hy <;> cases hy
      | _ => cases hy
    intro Z m H F e w hs i
    have hq : SqL X.K H l (ns.map V.int) := Same.seq w.sf (Same.seq e hF)
    refine ⟨fun hi => ?_, fun hi => ⟨_, hq, by simpa using hi⟩⟩
    have hi' : i < ns.length := by simpa using hi
    have g1 : (ns.map V.int)[i]? = some (.int ns[i]) := by rw [List.getElem?_map, List.getElem?_eq_getElem hi']; rfl
    refine ⟨⟨_, _, hq, g1⟩, fun x' H2 hy' => ?_⟩
    obtain ⟨rfl, hx⟩ := hy'
    have z := hx _ hq
    rw [g1] at z
    cases z
    exact ⟨F, .int ns[i], Ext.refl Z F, w, by rw [List.getElem?_map, List.getElem?_eq_getElem hi']; rfl, .int _⟩
theorem s_range1 (hg : Gl X "range") (hm : X.mg "range" = none) (ha : PE X a (tL X.K G fld W ma)) (hs : starEach [a] X.env = [(false, eval a X.env)]) : PI X tg (.Call (.Name "range" p) [a] [] pos) (tLW X.K G fld W (.range1 ma)) := by
  refine PIimp (pi_range1 hg hm (pa_cons ha pa_nil hs) hs) fun σ H R ⟨r, m, Z, F, Qd, Ed, w, sl, hq, post, xp⟩ => ?_
  simp only [rdW] at hq
  refine ⟨r, m, Z, F, _, Ed, w, sl, hq, fun d1 m1 v1 H1 F1 q1 e1 w1 r1 => ?_, xp⟩
  obtain ⟨n, rfl, h1, h2, hk⟩ := q1
  cases r1
  exact ⟨n, rfl, by omega, by omega, post _ _ m1 H1 F1 _ hk e1 w1 itr_ok (fun h => by cases h)⟩
theorem s_range2 (hg : Gl X "range") (hm : X.mg "range" = none) (ha : PE X a (tL X.K G fld W ma)) (hb : PE X b (tL X.K G fld W mb)) (hs : starEach [a, b] X.env = [(false, eval a X.env), (false, eval b X.env)]) (hs2 : starEach [b] X.env = [(false, eval b X.env)]) :
    PI X tg (.Call (.Name "range" p) [a, b] [] pos) (tLW X.K G fld W (.range2 ma mb)) := by
  refine PIimp (pi_range2 hg hm (pa_cons ha (pa_cons hb pa_nil hs2) (by rw [hs, hs2])) hs hs2) fun σ H R ⟨r, m, Z, F, Qd, Ed, w, sl, hq, post, xp⟩ => ?_
  simp only [rdW] at hq
  refine ⟨r, m, Z, F, _, Ed, w, sl, hq, fun d1 m1 v1 H1 F1 q1 e1 w1 r1 => ?_, xp⟩
  refine ⟨r, m1, Z, F1, _, Ed, w1, sl.mono e1.sm, q1, fun d2 m2 v2 H2 F2 q2 e2 w2 r2 => ?_, xp.ext e1⟩
  obtain ⟨i, n, rfl, rfl, ⟨h1, h2, h3, h4⟩, hk⟩ := q2
  cases r1
  cases r2
  exact ⟨i, n, rfl, ⟨by omega, by omega, by omega, by omega⟩, post _ _ m2 H2 F2 _ hk (e1.trans e2) w2 itr_ok (fun h => by cases h)⟩
/-! ### comprehensions -/
theorem wipe_slots {K : PySem.W.Frag} {F : Hp} {σ : L2.St} {r : Env} (h : Slots K F σ r) : ∀ vs : List Nat, Slots K F (wipe σ vs) (vs.foldr (fun i q => q.set i none) r)
  | [] => h
  | v :: vs => (wipe_slots h vs).del v
theorem n_comp {elt tg iter : Expr} {ifs : List Expr} {scope : Scope} {own : List (PySem.Str × Nat)} {pp : Pat} {vs : List Nat} {it : It} {t : Ts} {me : Ex} (hc : X.calm = true) (hN : X.N.Nodup) (hi : PI X tg iter (tLW X.K G fld W it)) (ok : BlkOk X.N X.env.scope scope own) (hv : own.map (·.2) = vs) (hp : ∀ i ∈ pslots pp, i ∈ vs)
    (hg : ∀ (s : Shared) (H : Hp) (C : Addr) (cl : List (PySem.Str × Addr)) (fp : List Addr), PG (X.blk s H scope (compEnvC scope cl C X.env) fp) tg (gP X.K pp))
    (ht : ∀ (s : Shared) (H : Hp) (C : Addr) (cl : List (PySem.Str × Addr)) (fp : List Addr), PTs (X.blk s H scope (compEnvC scope cl C X.env) fp) ifs (tLT X.K G fld (fun _ _ _ _ => False) t))
    (he : ∀ (s : Shared) (H : Hp) (C : Addr) (cl : List (PySem.Str × Addr)) (fp : List Addr), PE (X.blk s H scope (compEnvC scope cl C X.env) fp) elt (tL X.K G fld (fun _ _ _ _ => False) me)) (hs : ∀ x, foldedSetIterable iter X.env x = pure x) :
    ∀ σ H Q, tN X.K G fld W (.comp pp vs it t me) σ H Q → tLc (tLW X.K G fld W it) (gP X.K pp) (tLT X.K G fld (fun _ _ _ _ => False) t) (tL X.K G fld (fun _ _ _ _ => False) me) (own.map (·.2)) σ H Q := by
  intro σ H Q ⟨r, m, Z, F, Qd, Ed, w, sl, hq, post, xp⟩
  rw [hv]
  simp only [rdE] at hq
  refine ⟨r, m, Z, F, _, Ed, w, sl, hq, fun src xs m1 H1 F1 J q1 e1 w1 iR hlen => ?_, xp⟩
  obtain ⟨hrng, q1⟩ := q1
  have hxl : xs.length ≤ LINE := by
    cases e : isRng it with
    | true => exact hrng e
    | false => exact hlen e
  intro D hD
  obtain ⟨T, hT⟩ : ∃ T : DV → Mu → (Option DV → Mu → Prop) → Prop, T = fun x m2 kk => bindP pp x (vs.foldr (fun i q => q.set i none) r) m2 fun r2 => rdT G t r2 m2 (fun c m3 => if c = true then rdE G me r2 m3 (fun d m4 => kk (some d) m4) (fun _ _ => False) else kk none m3) (fun _ _ => False) := ⟨_, rfl⟩
  rw [← hT] at q1
  -- the walk's word
  refine ⟨fun i n H' => ∃ m' F' acc vsD, n = xs.length - i ∧ i ≤ xs.length ∧ Ext Z F1 F' ∧ Wf X.K Z F' H' m' ∧ H' D = some (.lst vsD) ∧ F' D = none ∧ Z D = none ∧ m' D = none ∧ RelDs X.K F' vsD acc ∧ vsD.length ≤ i ∧
      compW T src (xs.drop i) acc m' (fun ds m2 => Qd (.lst ds) m2), ⟨xs.length, m1, F1, [], [], ?_⟩, ?_⟩
  · obtain ⟨w2, p, vs2, ds2, e1', e2', h3, h4, h5, h6, h7, h8⟩ := w1.fresh (vs := []) (ds := []) hD .nil (Nat.zero_le _)
    cases e1'
    cases e2'
    exact ⟨by simp, Nat.zero_le _, Ext.refl Z F1, w2, upd_same, h4, h5, h6, .nil, Nat.zero_le _, by simpa using q1⟩
  · rintro i n H' ⟨m', F', acc, vsD, rfl, hi', e', w', hD', fD, zD, mD, rD, lD, hW⟩
    by_cases hlt : i < xs.length
    · rw [List.drop_eq_getElem_cons hlt] at hW
      simp only [compW] at hW
      obtain ⟨hsrc, hW⟩ := hW
      obtain ⟨hgo, hyl⟩ := (iR Z m' H' F' e'.sm w' hsrc i).1 hlt
      refine .inr ⟨hgo, fun H2 => ∃ m' F' acc vsD, Ext Z F1 F' ∧ Wf X.K Z F' H2 m' ∧ H2 D = some (.lst vsD) ∧ F' D = none ∧ Z D = none ∧ m' D = none ∧ RelDs X.K F' vsD acc ∧ vsD.length ≤ i + 1 ∧
          compW T src (xs.drop (i + 1)) acc m' (fun ds m2 => Qd (.lst ds) m2), fun H2 ⟨m2, F2, acc2, vs2, y1, y2, y3, y4, y5, y6, y7, y8, y9⟩ => ⟨xs.length - (i + 1), by omega, m2, F2, acc2, vs2, rfl, hlt, y1, y2, y3, y4, y5, y6, y7, y8, y9⟩, fun x H2 hy => ?_⟩
      -- the list that grows is kept by the frame
      have wD : Wf X.K (upd Z D (.lst vsD)) F' H' m' := ⟨w'.sf, fun b u e => by
        by_cases hb : b = D
        · subst hb; rw [upd_same] at e; cases e; exact hD'
        · rw [upd_ne hb] at e; exact w'.sz b u e, fun q u e => by
        obtain ⟨a1, a2, a3⟩ := w'.ob q u e
        have hq : q ≠ D := fun z => by rw [z, mD] at e; cases e
        exact ⟨a1, by rw [upd_ne hq]; exact a2, a3⟩⟩
      have hnD : ∀ {F2 : Hp}, Ext (upd Z D (.lst vsD)) F' F2 → F2 D = none := fun {F2} e => by
        cases z : F2 D with
        | none => rfl
        | some o =>
          rcases e.new D o z with y | y
          · rw [fD] at y; cases y
          · rw [upd_same] at y; cases y
      have toZ : ∀ {F2 : Hp}, Ext (upd Z D (.lst vsD)) F' F2 → Ext Z F' F2 := fun {F2} e => ⟨e.sm, fun b o h => by
        rcases e.new b o h with y | y
        · exact .inl y
        · by_cases hb' : b = D
          · subst hb'; rw [hnD e] at h; cases h
          · rw [upd_ne hb'] at y; exact .inr y⟩
      -- one turn is through: m2, F2, H2 behind it
      have thru : ∀ {m2 : Mu} {F2 H2 : Hp}, Ext (upd Z D (.lst vsD)) F' F2 → Wf X.K (upd Z D (.lst vsD)) F2 H2 m2 → H2 D = some (.lst vsD) ∧ F2 D = none ∧ m2 D = none ∧ Wf X.K Z F2 H2 m2 := fun {m2 F2 H2} e w2 => by
        refine ⟨w2.sz D _ upd_same, hnD e, ?_, w2.sf, fun b u h => ?_, fun q u h => ?_⟩
        · cases z : m2 D with
          | none => rfl
          | some o =>
            have := (w2.ob D o z).2.1
            rw [upd_same] at this; cases this
        · have hb : b ≠ D := ne_of_none h zD
          exact w2.sz b u (by rw [upd_ne hb]; exact h)
        · obtain ⟨a1, a2, a3⟩ := w2.ob q u h
          refine ⟨a1, ?_, a3⟩
          have hq : q ≠ D := fun z => by rw [z, upd_same] at a2; cases a2
          rw [upd_ne hq] at a2; exact a2
      obtain ⟨F2, d, e2, w2, hd, rd⟩ := ((iR (upd Z D (.lst vsD)) m' H' F' e'.sm wD hsrc i).1 hlt).2 x H2 hy
      rw [List.getElem?_eq_getElem hlt] at hd
      cases hd
      rw [hT] at hW
      refine pat_ok w2 pp hW rd (wipe_slots (sl.mono (e1.trans (e'.trans (toZ e2))).sm) vs) fun σ2 r2 s2 hwp h2 => ⟨?_, ?_⟩
      · rw [hwp vs hp]
        -- wiped twice is wiped
        have ww : ∀ (us : List Nat) (σ : L2.St), (∀ u ∈ us, u ∈ vs) → wipe (wipe σ us) vs = wipe σ vs := by
          intro us
          induction us with
          | nil => intro σ _; rfl
          | cons u us ih =>
            intro σ hu
            show wipe ((wipe σ us).set u none) vs = _
            rw [wipe_set, if_pos (hu u List.mem_cons_self)]
            exact ih σ fun x hx => hu x (List.mem_cons_of_mem _ hx)
        exact ww vs σ fun _ h => h
      · refine ⟨r2, m', upd Z D (.lst vsD), F2, _, _, w2, s2, h2, fun b m3 b' H3 F3 q3 e3 w3 hb => ?_, fun x m' H' F' cls dd h => h.elim⟩
        cases hb
        cases b with
        | true =>
          have q3 := q3
          rw [if_pos rfl] at q3
          show tL X.K G fld (fun _ _ _ _ => False) me σ2 H3 _
          refine ⟨r2, m3, upd Z D (.lst vsD), F3, _, _, w3, s2.mono e3.sm, q3, fun d4 m4 v4 H4 F4 q4 e4 w4 r4 => ?_, fun x m' H' F' cls dd h => h.elim⟩
          obtain ⟨y1, y2, y3, y4⟩ := thru (e2.trans (e3.trans e4)) w4
          refine ⟨vsD, y1, ?_, m4, F4, acc ++ [d4], vsD ++ [v4], e'.trans (toZ (e2.trans (e3.trans e4))), ?_, upd_same, y2, zD, y3, ?_, ?_, ?_⟩
          · have h1 : vsD.length < LINE := by omega
            rw [← LINE_eq]
            exact h1
          · refine ⟨fun b u h => ?_, fun b u h => ?_, fun q u h => ?_⟩
            · rw [upd_ne (ne_of_none h y2)]; exact y4.sf b u h
            · rw [upd_ne (ne_of_none h zD)]; exact y4.sz b u h
            · obtain ⟨a1, a2, a3⟩ := y4.ob q u h
              have hq : q ≠ D := fun z => by rw [z, y3] at h; cases h
              exact ⟨a1, a2, a3.mono (fun _ _ h => h) fun u hu => by rw [upd_ne hq]; exact hu⟩
          · exact (rD.mono (e2.trans (e3.trans e4)).sm).append (.cons r4 .nil)
          · rw [List.length_append]
            show vsD.length + 1 ≤ i + 1
            omega
          · rw [hT]; exact q4
        | false =>
          have q3 := q3
          rw [if_neg (by decide)] at q3
          obtain ⟨y1, y2, y3, y4⟩ := thru (e2.trans e3) w3
          exact ⟨m3, F3, acc, vsD, e'.trans (toZ (e2.trans e3)), y4, y1, y2, zD, y3, rD.mono (e2.trans e3).sm, by omega, by rw [hT]; exact q3⟩
    · have e0 : i = xs.length := by omega
      subst e0
      rw [List.drop_length] at hW
      simp only [compW] at hW
      refine .inl ⟨(iR Z m' H' F' e'.sm w' hW.1 xs.length).2 (Nat.le_refl _), ?_⟩
      exact post _ m' _ H' F' hW.2 (e1.trans e') w' ⟨D, vsD, acc, rfl, rfl, hD', fD, zD, mD, rD, by omega⟩
end
end DL

set_option Elab.async false
set_option linter.all false
set_option maxRecDepth 100000
set_option maxHeartbeats 2000000
namespace DL
open PySem L2
/-- what is wanted behind, lifted -/
structure EndsOk (K : PySem.W.Frag) (fld : Addr → PySem.Str) (W : WX) (Z F : Hp) (Dd : DL.Ends) (D : L2.Ends) : Prop where
  nx : ∀ r' m' σ' H' F', Dd.nx r' m' → Ext Z F F' → Wf K Z F' H' m' → Slots K F' σ' r' → D.nx σ' H'
  rt : ∀ d m' v H' F', Dd.rt d m' → Ext Z F F' → Wf K Z F' H' m' → RelD K F' v d → D.rt v H'
  bk : ∀ r' m' σ' H' F', Dd.bk r' m' → Ext Z F F' → Wf K Z F' H' m' → Slots K F' σ' r' → D.bk σ' H'
  ct : ∀ r' m' σ' H' F', Dd.ct r' m' → Ext Z F F' → Wf K Z F' H' m' → Slots K F' σ' r' → D.ct σ' H'
  ex : ∀ x r' m' σ' H' F' cls dd, Dd.ex x r' m' → Ext Z F F' → Wf K Z F' H' m' → Slots K F' σ' r' → ExcR K fld Z F' H' m' x cls dd → W cls dd σ' H'
theorem EndsOk.ext {K : PySem.W.Frag} {fld : Addr → PySem.Str} {W : WX} {Z F F1 : Hp} {Dd : DL.Ends} {D : L2.Ends} (h : EndsOk K fld W Z F Dd D) (e : Ext Z F F1) : EndsOk K fld W Z F1 Dd D :=
  ⟨fun r m σ H F' a b c d => h.nx r m σ H F' a (e.trans b) c d, fun r m σ H F' a b c d => h.rt r m σ H F' a (e.trans b) c d, fun r m σ H F' a b c d => h.bk r m σ H F' a (e.trans b) c d,
    fun r m σ H F' a b c d => h.ct r m σ H F' a (e.trans b) c d, fun x r m σ H F' cls dd a b c d f => h.ex x r m σ H F' cls dd a (e.trans b) c d f⟩
theorem EndsOk.xok {K : PySem.W.Frag} {fld : Addr → PySem.Str} {W : WX} {Z F : Hp} {Dd : DL.Ends} {D : L2.Ends} {σ : L2.St} {r : Env} (h : EndsOk K fld W Z F Dd D) (s : Slots K F σ r) : XOk K fld W Z F σ (fun x m => Dd.ex x r m) :=
  fun x m' H' F' cls dd a b c d => h.ex x r m' σ H' F' cls dd a b c (s.mono b.sm) d
section
variable (K : PySem.W.Frag) (G : Nat → Option Fn) (fld : Addr → PySem.Str)
def liftS (W : WX) (rd : DL.Ends → Env → Mu → Prop) : TS := fun D σ H => ∃ r m Z F Dd, Wf K Z F H m ∧ Slots K F σ r ∧ rd Dd r m ∧ EndsOk K fld W Z F Dd D
def tLS (W : WX) (s : St) : TS := liftS K fld W (rdS G s)
def tLSs (W : WX) (s : Sts) : TS := liftS K fld W (rdSs G s)
end
section
variable {X : Cx} {G : Nat → Option Fn} {fld : Addr → PySem.Str} {W : WX} {a b c : Expr} {ma mb mc : Ex} {pos p : Pos}
theorem PSimp {s : Stmt} {t t' : TS} (h : PS X s t) (i : ∀ D σ H, t' D σ H → t D σ H) : PS X s t' := ⟨fun pins s σ H D I q => h.run pins s σ H D I (i D σ H q)⟩
theorem PSsimp {s : List Stmt} {t t' : TS} (h : PSs X s t) (i : ∀ D σ H, t' D σ H → t D σ H) : PSs X s t' := ⟨fun pins s σ H D I q => h.run pins s σ H D I (i D σ H q)⟩
/-- x = e, by any reading t of e that the lifted one gives -/
theorem s_setG {tg e : Expr} {pp : Pat} {t : TE} (h : PS X (.Assign [tg] e pos) (tAsg t (gP X.K pp))) (i : ∀ σ H Q, tL X.K G fld W ma σ H Q → t σ H Q) : PS X (.Assign [tg] e pos) (tLS X.K G fld W (.set pp ma)) := by
  refine PSimp h fun D σ H ⟨r, m, Z, F, Dd, w, sl, hq, ok⟩ => i σ H _ ?_
  simp only [rdS] at hq
  refine ⟨r, m, Z, F, _, _, w, sl, hq, fun d m1 v H1 F1 q1 e1 w1 r1 => ?_, ok.xok sl⟩
  exact pat_ok w1 pp q1 r1 (sl.mono e1.sm) fun σ' r' s' _ hk => ok.nx r' m1 σ' H1 F1 hk e1 w1 s'
theorem s_exp (h : PS X (.Expr a pos) (tDrop (tL X.K G fld W ma))) : PS X (.Expr a pos) (tLS X.K G fld W (.exp ma)) := by
  refine PSimp h fun D σ H ⟨r, m, Z, F, Dd, w, sl, hq, ok⟩ => ?_
  simp only [rdS] at hq
  exact ⟨r, m, Z, F, _, _, w, sl, hq, fun d m1 v H1 F1 q1 e1 w1 r1 => ok.nx r m1 σ H1 F1 q1 e1 w1 (sl.mono e1.sm), ok.xok sl⟩
theorem s_ret (ha : PE X a (tL X.K G fld W ma)) : PS X (.Return (some a) pos) (tLS X.K G fld W (.ret ma)) := by
  refine PSimp (ps_ret ha) fun D σ H ⟨r, m, Z, F, Dd, w, sl, hq, ok⟩ => ?_
  simp only [rdS] at hq
  exact ⟨r, m, Z, F, _, _, w, sl, hq, fun d m1 v H1 F1 q1 e1 w1 r1 => ok.rt d m1 v H1 F1 q1 e1 w1 r1, ok.xok sl⟩
theorem s_retN : PS X (.Return none pos) (tLS X.K G fld W .retN) := by
  refine PSimp ps_retN fun D σ H ⟨r, m, Z, F, Dd, w, sl, hq, ok⟩ => ?_
  exact ok.rt .non m .non H F hq (Ext.refl Z F) w .non
theorem s_nil : PSs X [] (tLSs X.K G fld W .nil) := PSsimp pss_nil fun D σ H ⟨r, m, Z, F, Dd, w, sl, hq, ok⟩ => ok.nx r m σ H F hq (Ext.refl Z F) w sl
theorem s_cons {st : Stmt} {rest : List Stmt} {ms : St} {mr : Sts} (h1 : PS X st (tLS X.K G fld W ms)) (h2 : PSs X rest (tLSs X.K G fld W mr)) : PSs X (st :: rest) (tLSs X.K G fld W (.cons ms mr)) := by
  refine PSsimp (pss_cons h1 h2) fun D σ H ⟨r, m, Z, F, Dd, w, sl, hq, ok⟩ => ?_
  simp only [rdSs] at hq
  refine ⟨r, m, Z, F, _, w, sl, hq, ?_⟩
  exact ⟨fun r' m' σ' H' F' q e' w' s' => ⟨r', m', Z, F', Dd, w', s', q, ok.ext e'⟩, ok.rt, ok.bk, ok.ct, ok.ex⟩
theorem s_ifs {c : Expr} {sa sb : List Stmt} {t : Ts} {ma mb : Sts} (hc : PT X c (tLT X.K G fld W t)) (ha : PSs X sa (tLSs X.K G fld W ma)) (hb : PSs X sb (tLSs X.K G fld W mb)) : PS X (.If c sa sb pos) (tLS X.K G fld W (.ifs t ma mb)) := by
  refine PSimp (ps_if hc ha hb) fun D σ H ⟨r, m, Z, F, Dd, w, sl, hq, ok⟩ => ?_
  simp only [rdS] at hq
  refine ⟨r, m, Z, F, _, _, w, sl, hq, fun d m1 v H1 F1 q1 e1 w1 r1 => ?_, ok.xok sl⟩
  cases r1
  cases d with
  | true => exact ⟨r, m1, Z, F1, Dd, w1, sl.mono e1.sm, by simpa using q1, ok.ext e1⟩
  | false => exact ⟨r, m1, Z, F1, Dd, w1, sl.mono e1.sm, by simpa using q1, ok.ext e1⟩
theorem s_pass : PS X (.Pass pos) (tLS X.K G fld W .pass) := PSimp ps_pass fun D σ H ⟨r, m, Z, F, Dd, w, sl, hq, ok⟩ => ok.nx r m σ H F hq (Ext.refl Z F) w sl
theorem s_brk : PS X (.Break pos) (tLS X.K G fld W .brk) := PSimp ps_break fun D σ H ⟨r, m, Z, F, Dd, w, sl, hq, ok⟩ => ok.bk r m σ H F hq (Ext.refl Z F) w sl
theorem s_cont : PS X (.Continue pos) (tLS X.K G fld W .cont) := PSimp ps_continue fun D σ H ⟨r, m, Z, F, Dd, w, sl, hq, ok⟩ => ok.ct r m σ H F hq (Ext.refl Z F) w sl
/-! loops -/
theorem s_for {tg iter : Expr} {body : List Stmt} {pp : Pat} {it : It} {mb : Sts} (hp : PassesOwn (model X.prog X.w) X.A X.env X.xe) (hc : X.calm = true) (hi : PI X tg iter (tLW X.K G fld W it)) (hg : PG X tg (gP X.K pp)) (hb : PSs X body (tLSs X.K G fld W mb))
    (hs : ∀ x, foldedSetIterable iter X.env x = pure x) : PS X (.For tg iter body [] pos) (tLS X.K G fld W (.fr pp it mb)) := by
  refine PSimp (ps_for hp hc hi hg hb hs) fun D σ H ⟨r, m, Z, F, Dd, w, sl, hq, ok⟩ => ?_
  simp only [rdS] at hq
  refine ⟨r, m, Z, F, _, _, w, sl, hq, fun src xs m1 H1 F1 J q1 e1 w1 iR hlen => ?_, ok.xok sl⟩
  refine ⟨fun i n σ' H' => ∃ r' m' F', n = xs.length - i ∧ i ≤ xs.length ∧ Ext Z F1 F' ∧ Wf X.K Z F' H' m' ∧ Slots X.K F' σ' r' ∧ forW pp src (fun D' => rdSs G mb D') Dd (xs.drop i) r' m', ⟨xs.length, r, m1, F1, by simp, Nat.zero_le _, Ext.refl Z F1, w1, sl.mono e1.sm, by simpa using q1⟩, ?_⟩
  rintro i n σ' H' ⟨r', m', F', rfl, hi', e', w', s', hW⟩
  by_cases hlt : i < xs.length
  · rw [List.drop_eq_getElem_cons hlt] at hW
    simp only [forW] at hW
    obtain ⟨hsrc, hW⟩ := hW
    obtain ⟨hgo, hyl⟩ := (iR Z m' H' F' e'.sm w' hsrc i).1 hlt
    refine .inr ⟨hgo, fun σ2 H2 => ∃ r2 m2 F2, Ext Z F1 F2 ∧ Wf X.K Z F2 H2 m2 ∧ Slots X.K F2 σ2 r2 ∧ forW pp src (fun D' => rdSs G mb D') Dd (xs.drop (i + 1)) r2 m2, fun σ2 H2 ⟨r2, m2, F2, y1, y2, y3, y4⟩ => ⟨xs.length - (i + 1), by omega, r2, m2, F2, rfl, hlt, y1, y2, y3, y4⟩, fun x H2 hy => ?_⟩
    obtain ⟨F2, d, e2, w2, hd, rd⟩ := hyl x H2 hy
    rw [List.getElem?_eq_getElem hlt] at hd
    cases hd
    refine pat_ok w2 pp hW rd (s'.mono e2.sm) fun σ2 r2 s2 _ h2 => ?_
    refine ⟨r2, m', Z, F2, _, w2, s2, h2, ?_⟩
    have e12 := e'.trans e2
    have okk := ok.ext (e1.trans e12)
    exact ⟨fun r3 m3 σ3 H3 F3 q e3 w3 s3 => ⟨r3, m3, F3, e12.trans e3, w3, s3, q⟩, okk.rt, okk.nx, fun r3 m3 σ3 H3 F3 q e3 w3 s3 => ⟨r3, m3, F3, e12.trans e3, w3, s3, q⟩, okk.ex⟩
  · have e0 : i = xs.length := by omega
    subst e0
    rw [List.drop_length] at hW
    simp only [forW] at hW
    exact .inl ⟨(iR Z m' H' F' e'.sm w' hW.1 xs.length).2 (Nat.le_refl _), ok.nx r' m' σ' H' F' hW.2 (e1.trans e') w' s'⟩
theorem s_whl {test : Expr} {body : List Stmt} {t : Ts} {mb : Sts} (hp : PassesOwn (model X.prog X.w) X.A X.env X.xe) (hc : PT X test (tLT X.K G fld W t)) (hb : PSs X body (tLSs X.K G fld W mb)) : PS X (.While test body [] pos) (tLS X.K G fld W (.whl t mb)) := by
  refine PSimp (ps_while hp hc hb) fun D σ H ⟨r, m, Z, F, Dd, w, sl, hq, ok⟩ => ?_
  simp only [rdS] at hq
  obtain ⟨n0, hq⟩ := hq
  refine ⟨fun n σ' H' => ∃ r' m' F', Ext Z F F' ∧ Wf X.K Z F' H' m' ∧ Slots X.K F' σ' r' ∧ whlW G t (fun D' => rdSs G mb D') Dd n r' m', ⟨n0, r, m, F, Ext.refl Z F, w, sl, hq⟩, ?_⟩
  rintro n σ' H' ⟨r', m', F', e', w', s', hW⟩
  cases n with
  | zero => exact hW.elim
  | succ n =>
    simp only [whlW] at hW
    refine ⟨r', m', Z, F', _, _, w', s', hW, fun d m1 v H1 F1 q1 e1 w1 r1 => ?_, (ok.ext e').xok s'⟩
    cases r1
    cases d with
    | true =>
      rw [if_pos rfl] at q1
      have e2 := e'.trans e1
      have okk := ok.ext e2
      refine ⟨fun σ2 H2 => ∃ r2 m2 F2, Ext Z F F2 ∧ Wf X.K Z F2 H2 m2 ∧ Slots X.K F2 σ2 r2 ∧ whlW G t (fun D' => rdSs G mb D') Dd n r2 m2, fun σ2 H2 y => ⟨n, Nat.lt_succ_self n, y⟩, r', m1, Z, F1, _, w1, s'.mono e1.sm, q1, ?_⟩
      exact ⟨fun r3 m3 σ3 H3 F3 q e3 w3 s3 => ⟨r3, m3, F3, e2.trans e3, w3, s3, q⟩, okk.rt, okk.nx, fun r3 m3 σ3 H3 F3 q e3 w3 s3 => ⟨r3, m3, F3, e2.trans e3, w3, s3, q⟩, okk.ex⟩
    | false =>
      rw [if_neg (by decide)] at q1
      exact ok.nx r' m1 σ' H1 F1 q1 (e'.trans e1) w1 (s'.mono e1.sm)
/-! stores -/
theorem setD_ok {K : PySem.W.Frag} {Z F H : Hp} {m : Mu} {o i v : V} {x y z : DV} {k : Mu → Prop} {Q : Hp → Prop} (w : Wf K Z F H m) (ro : RelD K F o x) (ri : RelD K F i y) (rv : RelD K F v z) (h : setD x y z m k)
    (q : ∀ m' H', k m' → Wf K Z F H' m' → Q H') : rSetL o i v H Q := by
  unfold setD at h
  split at h
  · rename_i a j
    obtain ⟨xs, jj, hx, hi, hk⟩ := h
    cases ro
    cases ri
    obtain ⟨hf, hz, vs, h1, h2, h3⟩ := w.ob _ _ hx
    refine ⟨_, vs, _, jj, rfl, rfl, h1, by rw [h2.length]; exact hi, q _ _ hk (w.set hx ⟨vs.set jj v, upd_same, h2.set rv jj, ?_⟩)⟩
    rw [List.length_set]; exact h3
  · exact h.elim
theorem s_subset {o i : Expr} {mo mi : Ex} {sp : Pos} (h : PS X (.Assign [.Subscript o i sp] a pos) (tAsg (tL X.K G fld W ma) (gSub (tL X.K G fld W mo) (tL X.K G fld W mi) rSetL))) : PS X (.Assign [.Subscript o i sp] a pos) (tLS X.K G fld W (.sub mo mi ma)) := by
  refine PSimp h fun D σ H ⟨r, m, Z, F, Dd, w, sl, hq, ok⟩ => ?_
  simp only [rdS] at hq
  refine ⟨r, m, Z, F, _, _, w, sl, hq, fun d m1 v H1 F1 q1 e1 w1 r1 => ?_, ok.xok sl⟩
  refine ⟨r, m1, Z, F1, _, _, w1, sl.mono e1.sm, q1, fun d2 m2 v2 H2 F2 q2 e2 w2 r2 => ?_, (ok.ext e1).xok (sl.mono e1.sm)⟩
  refine ⟨r, m2, Z, F2, _, _, w2, sl.mono (e1.trans e2).sm, q2, fun d3 m3 v3 H3 F3 q3 e3 w3 r3 => ?_, (ok.ext (e1.trans e2)).xok (sl.mono (e1.trans e2).sm)⟩
  exact setD_ok w3 (r2.mono e3.sm) r3 (r1.mono (e2.trans e3).sm) q3 fun m' H' hk w' => ok.nx r m' σ H' F3 hk (e1.trans (e2.trans e3)) w' (sl.mono (e1.trans (e2.trans e3)).sm)
theorem s_par {i j : Nat} {ta : TA} {st : Stmt} (h : PS X st (fun D σ H => tCons (tL X.K G fld W ma) (tCons (tL X.K G fld W mb) tNil) σ H fun vs H1 => ∃ v u, vs = [v, u] ∧ D.nx ((σ.set i (some v)).set j (some u)) H1)) : PS X st (tLS X.K G fld W (.par i j ma mb)) := by
  refine PSimp h fun D σ H ⟨r, m, Z, F, Dd, w, sl, hq, ok⟩ => ?_
  simp only [rdS] at hq
  refine ⟨r, m, Z, F, _, _, w, sl, hq, fun d m1 v H1 F1 q1 e1 w1 r1 => ?_, ok.xok sl⟩
  refine ⟨r, m1, Z, F1, _, _, w1, sl.mono e1.sm, q1, fun d2 m2 v2 H2 F2 q2 e2 w2 r2 => ?_, (ok.ext e1).xok (sl.mono e1.sm)⟩
  exact ⟨_, _, rfl, ok.nx _ m2 _ H2 F2 q2.2 (e1.trans e2) w2 (((sl.mono (e1.trans e2).sm).set i (r1.mono e2.sm)).set j r2)⟩
end
end DL

set_option Elab.async false
set_option linter.all false
set_option maxRecDepth 100000
set_option maxHeartbeats 2000000
namespace DL
open PySem L2 PySem.Spec PyProof.Rows
section
variable {X : Cx} {G : Nat → Option Fn} {fld : Addr → PySem.Str} {W : WX} {a : Expr} {ma : Ex} {pos : Pos}
def tRev (K : PySem.W.Frag) (te : TE) : TE := fun σ H Q => te σ H fun x H1 => (∃ a xs, x = .ref a ∧ SqL K H1 a xs ∧ ∀ p, H1 p = none → Q (.ref p) (upd H1 p (.lst xs.reverse))) ∨ (∃ z : PySem.Str, x = .str z ∧ z.length ≤ sizeLine ∧ Q (.str ⟨z.cps.toList.reverse.toArray⟩) H1)
theorem pe_rev {e : Expr} {te : TE} {k : Nat} {p1 p2 p3 pos : Pos} (he : PE X e te) : PE X (.Subscript e (.Slice none none (some (.UnaryOp .USub (.Constant (.int 1) k p1) p2)) p3) pos) (tRev X.K te) := by
  refine ⟨fun pins s σ H Q I h => ?_⟩
  refine Subscript_ (thn (he.run pins s σ H _ I h) fun v s1 ⟨x, H1, I1, r1, q1⟩ => ?_)
  have hst : PO X (some (.UnaryOp .USub (.Constant (.int 1) k p1) p2)) (tPart (tUn (rU fun i => .int (-i)) (tC (.int 1)))) := po_some (pe_un un_neg pe_int)
  refine wpAny_Slice (thn (po_none.run pins s1 σ H1 (fun o H2 => o = none ∧ H2 = H1) I1 ⟨rfl, rfl⟩) fun vl s2 ⟨l, H2, I2, pl, el, e2⟩ => ?_)
  subst el e2
  refine thn (po_none.run pins s2 σ H2 (fun o H3 => o = none ∧ H3 = H2) I2 ⟨rfl, rfl⟩) fun vu s3 ⟨u, H3, I3, pu, eu, e3⟩ => ?_
  subst eu e3
  refine thn (hst.run pins s3 σ H3 (fun o H4 => o = some (-1) ∧ H4 = H3) I3 ⟨1, rfl, -1, rfl, rfl, rfl⟩) fun vs s4 ⟨o, H4, I4, ps, eo, e4⟩ => ?_
  subst eo e4
  have I5 : Inv X pins σ H4 { s4 with heap := s4.heap.push { cls := .type "slice", data := .fields #[vl, vu, vs] } } := I4.kept (t' := s4.toks) fun b ob q => Heap.get?_push_of_some _ q
  rcases q1 with ⟨a, xs, ex, hx, q⟩ | ⟨z, ex, hz, q⟩
  · subst ex
    cases r1
    obtain ⟨its, r, ht, hz⟩ := I5.list hx
    have hlen := r.length
    refine tail_any (ops := [.ref a, .ref s4.heap.objs.size]) ht.isList.typeIs (PySem.slot_list_getitem.lookup) ?_ (by with_unfolding_all rfl)
    refine wpAny_getItem_list_slice ht.isList (Heap.IsSliceOf.new _ vl vu vs) pl pu ps (by decide) ?_ (by rw [List.size_toArray]; omega)
    rw [PySem.W.krv_pick]
    refine ⟨.ref _, _, I5.laid (t' := s4.toks) (o := .lst xs.reverse) (fun b ob q => Heap.get?_push_of_some _ q) (Nat.le_refl _) ?_, rfl, q _ (I5.hok.fresh (Nat.le_refl _))⟩
    exact ⟨by rw [List.length_reverse]; exact hz, _, 0, r.reverse, Heap.get?_push_size _ rfl⟩
  · subst ex
    obtain ⟨t, rfl⟩ := r1
    obtain ⟨lr, rfl, el⟩ := IsPart.raw pl
    obtain ⟨ur, rfl, eu⟩ := IsPart.raw pu
    obtain ⟨sr, rfl, es⟩ := IsPart.raw ps
    refine tail_any (ops := [.str z t, .ref s4.heap.objs.size]) (typeIs_str _ _ _) (F.slot_str_getitem.lookup) ?_ (by with_unfolding_all rfl)
    have h0 : ((sr.map (·.1)).getD 1 == 0) = false := by rw [es]; rfl
    refine wpAny_getItem_str_slice (l := lr) (u := ur) (st := sr) ⟨_, Heap.get?_push_size _ rfl, rfl, rfl⟩ h0 ?_
    have hp : slicePicked z lr ur sr = (List.range z.length).map fun k => z.length - 1 - k := by
      unfold slicePicked
      rw [el, eu, es]
      exact PySem.W.krv_sliceRange z.length
    have hf : ((slicePicked z lr ur sr).filterMap (z.cps[·]?)) = z.cps.toList.reverse := by
      rw [hp, PySem.W.krv_range, List.filterMap_reverse]
      rw [show z.length = z.cps.size from rfl, PySem.W.krv_all]
    have hm : sliceMade z t lr ur sr = .str ⟨z.cps.toList.reverse.toArray⟩ := by
      unfold sliceMade
      rw [hf]
      have : ((sr.map (·.1)).getD 1 == 1) = false := by rw [es]; rfl
      rw [this]
      rfl
    rw [hm]
    refine ⟨?_, .str _, H4, I5.tok _, ⟨_, rfl⟩, q⟩
    show (z.cps.toList.reverse.toArray).size ≤ sizeLine
    rw [List.size_toArray, List.length_reverse]
    exact hz
theorem s_rev {k : Nat} {p1 p2 p3 : Pos} (ha : PE X a (tL X.K G fld W ma)) : PE X (.Subscript a (.Slice none none (some (.UnaryOp .USub (.Constant (.int 1) k p1) p2)) p3) pos) (tL X.K G fld W (.rev ma)) := by
  refine PEimp (pe_rev ha) fun σ H Q ⟨r, m, Z, F, Qd, Ed, w, sl, hq, post, xp⟩ => ?_
  simp only [rdE] at hq
  refine ⟨r, m, Z, F, _, Ed, w, sl, hq, fun d1 m1 v1 H1 F1 q1 e1 w1 r1 => ?_, xp⟩
  unfold revD at q1
  split at q1
  · rename_i xs e
    obtain ⟨p, vs, rfl, hp, rs, hl⟩ := w1.lst r1 e
    refine .inl ⟨p, vs, rfl, SqL.of hp, fun q hq => ?_⟩
    obtain ⟨w', e'⟩ := w1.new hq (.lst vs.reverse)
    exact post _ m1 _ _ _ q1 (e1.trans e') w' (.lst upd_same (rs.reverse.mono e'.sm) (by rw [List.length_reverse]; exact hl))
  · rename_i xs e
    obtain ⟨z, rfl, ez, cz⟩ := Wf.str r1 e
    refine .inr ⟨z, rfl, by rw [lenS, ez, ← LINE_eq]; exact q1.1, post _ m1 _ _ _ q1.2 e1 w1 ?_⟩
    have h := RelD.str (K := X.K) (F := F1) ⟨z.cps.toList.reverse.toArray⟩ (fun c hc => by
      have : c ∈ z.cps.toList := by simpa using hc
      rw [ez] at this
      exact cz c this)
    rw [← ez]
    simpa using h
  · exact q1.elim
end
end DL

set_option Elab.async false
set_option linter.all false
set_option maxRecDepth 100000
set_option maxHeartbeats 2000000
namespace DL
open PySem L2
/-! ### the check: the text against the small language -/
def notStar : Expr → Bool
  | .Starred _ _ => false
  | _ => true
def notComp : Expr → Bool
  | .ListComp _ _ _ _ => false
  | .SetComp _ _ _ _ => false
  | .DictComp _ _ _ _ _ => false
  | _ => true
def notSlice : Expr → Bool
  | .Slice _ _ _ _ => false
  | _ => true
def notSet : Expr → Bool
  | .Set _ _ _ => false
  | _ => true
/-- no call without arguments (super) -/
def notCall0 : Expr → Bool
  | .Call _ [] [] _ => false
  | _ => true
def plainT : Expr → Bool
  | .UnaryOp .Not _ _ => false
  | .BoolOp _ _ _ => false
  | .IfExp _ _ _ _ => false
  | .Compare _ _ _ _ => false
  | _ => true
theorem star_of {e : Expr} {es : List Expr} {env : PySem.Env} (h : notStar e = true) : starEach (e :: es) env = (false, eval e env) :: starEach es env := by
  cases e <;> first | (cases h; done) | rfl
theorem back_of {pos : Pos} {env : PySem.Env} : ∀ {es : List Expr}, es.all notStar = true → (backTo pos (starEach es env)).any (·.1) = false
  | [], _ => rfl
  | e :: es, h => by
    simp only [List.all_cons, Bool.and_eq_true] at h
    rw [star_of h.1]
    show (false || (backTo pos (starEach es env)).any (·.1)) = false
    rw [back_of h.2]
    rfl
theorem plainIx_of {e : Expr} (h : notSlice e = true) : PlainIx e := by
  intro o i
  cases e <;> first | (cases h; done) | rfl
theorem base_of {e : Expr} {f : PySem.Str} {env : PySem.Env} (h : notCall0 e = true) : attributeBase e f env (eval e env) = eval e env := by
  cases e with
  | Call fn args kws p =>
    cases args with
    | nil =>
      cases kws with
      | nil => cases h
      | cons _ _ => cases fn <;> rfl
    | cons _ _ => cases fn <;> rfl
  | _ => rfl
theorem folded_of {e : Expr} {env : PySem.Env} (h : notSet e = true) (x : Value) : foldedSetIterable e env x = pure x := by
  cases e <;> first | (cases h; done) | rfl
theorem plainT_of {e : Expr} {env : PySem.Env} (h : plainT e = true) (whole : Sem Value) : isTrue e env whole = (do let v ← whole; standAt e.pos; holding [v] (truthy v)) := by
  cases e with
  | UnaryOp op a p => cases op <;> first | (cases h; done) | rfl
  | BoolOp _ _ _ => cases h
  | IfExp _ _ _ _ => cases h
  | Compare _ _ _ _ => cases h
  | _ => rfl
theorem marks_of {op : CmpOp} {e : Expr} (h : notSet e = true) : behindInMarks op e = false := by
  cases e <;> first | (cases h; done) | rfl
theorem swaps_of {e : Expr} {t : Option Expr} {l : Nat} {env : PySem.Env} (h : notComp e = true) : swapsWith e t l env = pure false := by
  cases e <;> first | (cases h; done) | rfl
def vis (sc : Scope) (x : PySem.Str) : Bool := match sc.names.lookup x with
  | some .local => true | some .cell => true | some .free => true | _ => false
def loc (sc : Scope) (x : PySem.Str) : Bool := match sc.names.lookup x with
  | some .local => true | some .cell => true | _ => false
def isLocal (sc : Scope) (x : PySem.Str) : Bool := match sc.names.lookup x with
  | some .local => true | _ => false
def glob (sc : Scope) (x : PySem.Str) : Bool := match sc.names.lookup x with
  | some .globalImplicit => true | _ => false
def okName (x : PySem.Str) : Bool := !(x == ("__debug__" : PySem.Str)) && !(x == ("__classdict__" : PySem.Str)) && !(x == ("__name__" : PySem.Str))
def okSigns (s : S) : Bool := s.all (· < 0x110000)
def cstEq : DV → DV → Bool
  | .non, .non => true
  | .bl a, .bl b => a == b
  | .int a, .int b => a == b
  | .str a, .str b => a == b && okSigns a
  | _, _ => false
def chkC (c : Cfg) (sc : Scope) (d : DV) : Expr → Bool
  | .Constant .none _ _ => cstEq d .non
  | .Constant (.bool b) _ _ => cstEq d (.bl b)
  | .Constant (.int b) _ _ => cstEq d (.int b)
  | .Constant (.str b) _ _ => cstEq d (.str b.cps.toList)
  | .Name x _ => glob sc x && okName x && (match c.gls.lookup x with | some v => cstEq d v | none => false)
  | _ => false
def chkP (c : Cfg) (sc : Scope) (fb : PySem.Str → Bool) : Pat → Expr → Bool
  | .name i, .Name x _ => decide (c.N[i]? = some x) && loc sc x && (fb x || isLocal sc x)
  | .pair a b, .Tuple [x, y] _ _ => chkP c sc fb a x && chkP c sc fb b y
  | _, _ => false
def metName : Met → PySem.Str
  | .append => "append" | .pop => "pop" | .pop0 => "pop" | .join => "join" | .split => "split"
def ownOf (N : List PySem.Str) (vs : List Nat) : List (PySem.Str × Nat) := vs.filterMap fun i => N[i]?.map fun x => (x, i)
/-! one construct each, the parts' checks handed in; and what a check that says yes tells -/
abbrev PEx := Expr → Bool
def kVar (c : Cfg) (sc : Scope) (i : Nat) : PEx
  | .Name x _ => decide (c.N[i]? = some x) && vis sc x && okName x
  | _ => false
theorem kVar_inv {c : Cfg} {sc : Scope} {i : Nat} : ∀ {e : Expr}, kVar c sc i e = true → ∃ x p, e = .Name x p ∧ c.N[i]? = some x ∧ vis sc x = true ∧ okName x = true := by
  intro e h
  cases e <;> first | (cases h; done) | (simp only [kVar, Bool.and_eq_true, decide_eq_true_eq] at h; exact ⟨_, _, rfl, h.1.1, h.1.2, h.2⟩)
def kTup (f : List Expr → Bool) : PEx
  | .Tuple xs _ _ => f xs
  | _ => false
theorem kTup_inv {f : List Expr → Bool} : ∀ {e : Expr}, kTup f e = true → ∃ xs k p, e = .Tuple xs k p ∧ f xs = true := by
  intro e h
  cases e <;> first | (cases h; done) | exact ⟨_, _, _, rfl, h⟩
def kLst (f : List Expr → Bool) : PEx
  | .List xs _ => f xs
  | _ => false
theorem kLst_inv {f : List Expr → Bool} : ∀ {e : Expr}, kLst f e = true → ∃ xs p, e = .List xs p ∧ f xs = true := by
  intro e h
  cases e <;> first | (cases h; done) | exact ⟨_, _, rfl, h⟩
def kBin (op : Operator) (f g : PEx) : PEx
  | .BinOp x o y _ => decide (o = op) && f x && g y
  | _ => false
theorem kBin_inv {op : Operator} {f g : PEx} : ∀ {e : Expr}, kBin op f g e = true → ∃ x y p, e = .BinOp x op y p ∧ f x = true ∧ g y = true := by
  intro e h
  cases e <;> first | (cases h; done) | (simp only [kBin, Bool.and_eq_true, decide_eq_true_eq] at h; obtain ⟨⟨rfl, h1⟩, h2⟩ := h; exact ⟨_, _, _, rfl, h1, h2⟩)
def kUn (op : UnaryOp) (f : PEx) : PEx
  | .UnaryOp o x _ => decide (o = op) && f x
  | _ => false
theorem kUn_inv {op : UnaryOp} {f : PEx} : ∀ {e : Expr}, kUn op f e = true → ∃ x p, e = .UnaryOp op x p ∧ f x = true := by
  intro e h
  cases e <;> first | (cases h; done) | (simp only [kUn, Bool.and_eq_true, decide_eq_true_eq] at h; obtain ⟨rfl, h1⟩ := h; exact ⟨_, _, rfl, h1⟩)
def kCmp (op : CmpOp) (f g : PEx) : PEx
  | .Compare x os ys _ => (match os, ys with
    | [o], [y] => decide (o = op) && notSet y && f x && g y
    | _, _ => false)
  | _ => false
theorem kCmp_inv {op : CmpOp} {f g : PEx} : ∀ {e : Expr}, kCmp op f g e = true → ∃ x y p, e = .Compare x [op] [y] p ∧ notSet y = true ∧ f x = true ∧ g y = true := by
  intro e h
  cases e <;> first | (cases h; done) | skip
  rename_i x os ys p
  match os, ys, h with
  | [o], [y], h =>
    simp only [kCmp, Bool.and_eq_true, decide_eq_true_eq] at h
    obtain ⟨⟨⟨rfl, h1⟩, h2⟩, h3⟩ := h
    exact ⟨_, _, _, rfl, h1, h2, h3⟩
def kCmp2 (op op' : CmpOp) (f g q : PEx) : PEx
  | .Compare x os ys _ => (match os, ys with
    | [o, o'], [y, z] => decide (o = op) && decide (o' = op') && notSet z && f x && g y && q z
    | _, _ => false)
  | _ => false
theorem kCmp2_inv {op op' : CmpOp} {f g q : PEx} : ∀ {e : Expr}, kCmp2 op op' f g q e = true → ∃ x y z p, e = .Compare x [op, op'] [y, z] p ∧ notSet z = true ∧ f x = true ∧ g y = true ∧ q z = true := by
  intro e h
  cases e <;> first | (cases h; done) | skip
  rename_i x os ys p
  match os, ys, h with
  | [o, o'], [y, z], h =>
    simp only [kCmp2, Bool.and_eq_true, decide_eq_true_eq] at h
    obtain ⟨⟨⟨⟨⟨rfl, rfl⟩, h1⟩, h2⟩, h3⟩, h4⟩ := h
    exact ⟨_, _, _, _, rfl, h1, h2, h3, h4⟩
def kBool (op : BoolOp) (f g : PEx) : PEx
  | .BoolOp o vs p => decide (o = op) && (match vs with
    | x :: y :: r => f x && (match r with
      | [] => g y
      | _ :: _ => g (.BoolOp op (y :: r) p))
    | _ => false)
  | _ => false
theorem kBool_inv {op : BoolOp} {f g : PEx} : ∀ {e : Expr}, kBool op f g e = true → ∃ x y p, f x = true ∧ ((e = .BoolOp op [x, y] p ∧ g y = true) ∨ ∃ z r, e = .BoolOp op (x :: y :: z :: r) p ∧ g (.BoolOp op (y :: z :: r) p) = true) := by
  intro e h
  cases e <;> first | (cases h; done) | skip
  rename_i o vs p
  simp only [kBool, Bool.and_eq_true, decide_eq_true_eq] at h
  obtain ⟨rfl, h⟩ := h
  match vs, h with
  | [x, y], h =>
    simp only [Bool.and_eq_true] at h
    exact ⟨x, y, p, h.1, .inl ⟨rfl, h.2⟩⟩
  | x :: y :: z :: r, h =>
    simp only [Bool.and_eq_true] at h
    exact ⟨x, y, p, h.1, .inr ⟨z, r, rfl, h.2⟩⟩
def kIf (t f g : PEx) : PEx
  | .IfExp q x y _ => t q && f x && g y
  | _ => false
theorem kIf_inv {t f g : PEx} : ∀ {e : Expr}, kIf t f g e = true → ∃ q x y p, e = .IfExp q x y p ∧ t q = true ∧ f x = true ∧ g y = true := by
  intro e h
  cases e <;> first | (cases h; done) | (simp only [kIf, Bool.and_eq_true] at h; exact ⟨_, _, _, _, rfl, h.1.1, h.1.2, h.2⟩)
def kSub (f g : PEx) : PEx
  | .Subscript x y _ => notSlice y && f x && g y
  | _ => false
theorem kSub_inv {f g : PEx} : ∀ {e : Expr}, kSub f g e = true → ∃ x y p, e = .Subscript x y p ∧ notSlice y = true ∧ f x = true ∧ g y = true := by
  intro e h
  cases e <;> first | (cases h; done) | (simp only [kSub, Bool.and_eq_true] at h; exact ⟨_, _, _, rfl, h.1.1, h.1.2, h.2⟩)
def kSlc (f : PEx) (g q : Option Expr → Bool) : PEx
  | .Subscript x y _ => (match y with
    | .Slice l h s _ => s.isNone && f x && g l && q h
    | _ => false)
  | _ => false
theorem kSlc_inv {f : PEx} {g q : Option Expr → Bool} : ∀ {e : Expr}, kSlc f g q e = true → ∃ x l h p2 p, e = .Subscript x (.Slice l h none p2) p ∧ f x = true ∧ g l = true ∧ q h = true := by
  intro e h
  cases e <;> first | (cases h; done) | skip
  rename_i x y p
  cases y <;> first | (cases h; done) | skip
  rename_i l hh st p2
  simp only [kSlc, Bool.and_eq_true] at h
  cases st with
  | some _ => cases h.1.1.1
  | none => exact ⟨_, _, _, _, _, rfl, h.1.1.2, h.1.2, h.2⟩
/-- a[::-1] -/
def kRev (f : PEx) : PEx
  | .Subscript x y _ => (match y with
    | .Slice none none (some (.UnaryOp .USub (.Constant (.int i) _ _) _)) _ => decide (i = 1) && f x
    | _ => false)
  | _ => false
theorem kRev_inv {f : PEx} : ∀ {e : Expr}, kRev f e = true → ∃ x k p1 p2 p3 p, e = .Subscript x (.Slice none none (some (.UnaryOp .USub (.Constant (.int 1) k p1) p2)) p3) p ∧ f x = true := by
  intro e h
  cases e <;> first | (cases h; done) | skip
  rename_i x y p
  cases y <;> first | (cases h; done) | skip
  rename_i l hh st p2
  match l, hh, st, h with
  | none, none, some (.UnaryOp .USub (.Constant (.int i) k p1) p2'), h =>
    simp only [kRev, Bool.and_eq_true, decide_eq_true_eq] at h
    obtain ⟨rfl, h⟩ := h
    exact ⟨_, _, _, _, _, _, rfl, h⟩
/-- f(a, ..) with a name -/
def kCall (okf : PySem.Str → Bool) (g : List Expr → Bool) : PEx
  | .Call fn as ks _ => (match fn, as, ks with
    | .Name x _, y :: ys, [] => okf x && g (y :: ys) && (y :: ys).all notStar
    | _, _, _ => false)
  | _ => false
theorem kCall_inv {okf : PySem.Str → Bool} {g : List Expr → Bool} : ∀ {e : Expr}, kCall okf g e = true → ∃ x px y ys p, e = .Call (.Name x px) (y :: ys) [] p ∧ okf x = true ∧ g (y :: ys) = true ∧ notStar y = true ∧ ys.all notStar = true := by
  intro e h
  cases e <;> first | (cases h; done) | skip
  rename_i fn as ks p
  cases fn <;> first | (cases h; done) | skip
  match as, ks, h with
  | y :: ys, [], h =>
    simp only [kCall, Bool.and_eq_true, List.all_cons] at h
    exact ⟨_, _, _, _, _, rfl, h.1.1, h.1.2, h.2.1, h.2.2⟩
/-- f(..) of a def: by place, without arguments, or by keywords -/
def kFn (okf : PySem.Str → Bool) (ks : List PySem.Str) (g : List Expr → Bool) : PEx
  | .Call fn as kws _ => (match fn with
    | .Name x _ => okf x && (if ks = [] then kws.isEmpty && g as && as.all notStar else as.isEmpty && decide (kws.map (·.arg) = ks.map some) && g (kwEs kws))
    | _ => false)
  | _ => false
theorem kFn_inv {okf : PySem.Str → Bool} {ks : List PySem.Str} {g : List Expr → Bool} : ∀ {e : Expr}, kFn okf ks g e = true → ∃ x px as kws p, e = .Call (.Name x px) as kws p ∧ okf x = true ∧
    ((ks = [] ∧ kws = [] ∧ g as = true ∧ as.all notStar = true) ∨ (ks ≠ [] ∧ as = [] ∧ kws.map (·.arg) = ks.map some ∧ g (kwEs kws) = true)) := by
  intro e h
  cases e <;> first | (cases h; done) | skip
  rename_i fn as kws p
  cases fn <;> first | (cases h; done) | skip
  simp only [kFn, Bool.and_eq_true] at h
  obtain ⟨h1, h2⟩ := h
  by_cases hk : ks = []
  · rw [if_pos hk] at h2
    simp only [Bool.and_eq_true] at h2
    exact ⟨_, _, _, _, _, rfl, h1, .inl ⟨hk, by simpa using h2.1.1, h2.1.2, h2.2⟩⟩
  · rw [if_neg hk] at h2
    simp only [Bool.and_eq_true, decide_eq_true_eq] at h2
    exact ⟨_, _, _, _, _, rfl, h1, .inr ⟨hk, by simpa using h2.1.1, h2.1.2, h2.2⟩⟩
def kIsi (sc : Scope) (k : Kind) (f : PEx) : PEx
  | .Call fn as ks _ => (match fn, as, ks with
    | .Name x _, [y, .Name t _], [] => kPlain k && glob sc x && decide (x = "isinstance") && glob sc t && decide (t = kStr k) && notStar y && f y
    | _, _, _ => false)
  | _ => false
theorem kIsi_inv {sc : Scope} {k : Kind} {f : PEx} : ∀ {e : Expr}, kIsi sc k f e = true → ∃ px y pt p, e = .Call (.Name "isinstance" px) [y, .Name (kStr k) pt] [] p ∧ kPlain k = true ∧ glob sc "isinstance" = true ∧ glob sc (kStr k) = true ∧ notStar y = true ∧ f y = true := by
  intro e h
  cases e <;> first | (cases h; done) | skip
  rename_i fn as ks p
  cases fn <;> first | (cases h; done) | skip
  rename_i x px
  match as, ks, h with
  | [y, .Name t pt], [], h =>
    simp only [kIsi, Bool.and_eq_true, decide_eq_true_eq] at h
    obtain ⟨⟨⟨⟨⟨⟨h1, h2⟩, rfl⟩, h4⟩, rfl⟩, h6⟩, h7⟩ := h
    exact ⟨_, _, _, _, rfl, h1, h2, h4, h6, h7⟩
def kMet (t : Met) (f g : PEx) : PEx
  | .Call fn as ks p => (match fn, as, ks with
    | .Attribute y fd ap, [x], [] => decide (fd = metName t) && notCall0 y && notStar x && (ap.endLine == p.line) && f y && g x
    | _, _, _ => false)
  | _ => false
theorem kMet_inv {t : Met} {f g : PEx} : ∀ {e : Expr}, kMet t f g e = true → ∃ y ap x p, e = .Call (.Attribute y (metName t) ap) [x] [] p ∧ notCall0 y = true ∧ notStar x = true ∧ (ap.endLine == p.line) = true ∧ f y = true ∧ g x = true := by
  intro e h
  cases e <;> first | (cases h; done) | skip
  rename_i fn as ks p
  cases fn <;> first | (cases h; done) | skip
  rename_i y fd ap
  match as, ks, h with
  | [x], [], h =>
    simp only [kMet, Bool.and_eq_true, decide_eq_true_eq] at h
    obtain ⟨⟨⟨⟨⟨rfl, h2⟩, h3⟩, h4⟩, h5⟩, h6⟩ := h
    exact ⟨_, _, _, _, rfl, h2, h3, h4, h5, h6⟩
/-- what a comprehension wants of its parts -/
def kComp (c : Cfg) (sc : Scope) (p : Pat) (vs : List Nat) (w : Expr → PEx) (t : Scope → (PySem.Str → Bool) → List Expr → Bool) (g : Scope → (PySem.Str → Bool) → PEx) : PEx
  | .ListComp elt gens scope _ => (match gens with
    | [⟨tg, iter, ifs, n⟩] => decide (n = 0) && notSet iter && blkC c.N sc scope (ownOf c.N vs) && decide ((ownOf c.N vs).map (·.2) = vs) && (pslots p).all (fun i => decide (i ∈ vs)) && w tg iter &&
        chkP c (relS scope sc) (fun x => scope.names.lookup x == some .cell) p tg && t (relS scope sc) (fun x => scope.names.lookup x == some .cell) ifs && g (relS scope sc) (fun x => scope.names.lookup x == some .cell) elt
    | _ => false)
  | _ => false
theorem kComp_inv {c : Cfg} {sc : Scope} {p : Pat} {vs : List Nat} {w : Expr → PEx} {t : Scope → (PySem.Str → Bool) → List Expr → Bool} {g : Scope → (PySem.Str → Bool) → PEx} : ∀ {e : Expr}, kComp c sc p vs w t g e = true →
    ∃ elt tg iter ifs scope ps, e = .ListComp elt [⟨tg, iter, ifs, 0⟩] scope ps ∧ notSet iter = true ∧ blkC c.N sc scope (ownOf c.N vs) = true ∧ (ownOf c.N vs).map (·.2) = vs ∧ (pslots p).all (fun i => decide (i ∈ vs)) = true ∧ w tg iter = true ∧
      chkP c (relS scope sc) (fun x => scope.names.lookup x == some .cell) p tg = true ∧ t (relS scope sc) (fun x => scope.names.lookup x == some .cell) ifs = true ∧ g (relS scope sc) (fun x => scope.names.lookup x == some .cell) elt = true := by
  intro e h
  cases e <;> first | (cases h; done) | skip
  rename_i elt gens scope ps
  match gens, h with
  | [⟨tg, iter, ifs, n⟩], h =>
    simp only [kComp, Bool.and_eq_true, decide_eq_true_eq] at h
    obtain ⟨⟨⟨⟨⟨⟨⟨⟨rfl, h1⟩, h2⟩, h3⟩, h4⟩, h5⟩, h6⟩, h7⟩, h8⟩ := h
    exact ⟨_, _, _, _, _, _, rfl, h1, h2, h3, h4, h5, h6, h7, h8⟩
/-- an expression's checks that a test takes too -/
def isCmp : Ex → Bool
  | .cmp _ _ _ => true
  | .cmp2 _ _ _ _ _ => true
  | _ => false
def kRng (sc : Scope) (g : List Expr → Bool) : PEx := kCall (fun x => glob sc x && decide (x = "range")) g
def k1 (f : PEx) : List Expr → Bool
  | [x] => f x
  | _ => false
def k2 (f g : PEx) : List Expr → Bool
  | [x, y] => f x && g y
  | _ => false
def isNew : Ex → Bool
  | .lst _ => true
  | .comp _ _ _ _ _ => true
  | .blt .list (.cons _ .nil) => true
  | _ => false
def isSlc : Ex → Bool
  | .slc _ _ _ => true
  | _ => false
def metOk : Met → Bool
  | .append => true | .pop => true | .join => true | _ => false
def isYes : Ts → Bool
  | .yes => true
  | _ => false
def kStar (f : PEx) : PEx
  | .Starred y _ => f y
  | _ => false
mutual
def chkE (c : Cfg) : Ex → Scope → (PySem.Str → Bool) → Expr → Bool
  | .var i, sc, _, e => kVar c sc i e
  | .cst d, sc, _, e => chkC c sc d e
  | .tup es, sc, fb, e => kTup (chkI c es sc fb) e
  | .lst es, sc, fb, e => kLst (chkI c es sc fb) e
  | .bin op a b, sc, fb, e => kBin (bopP op) (chkE c a sc fb) (chkE c b sc fb) e
  | .neg a, sc, fb, e => kUn .USub (chkE c a sc fb) e
  | .cmp op a b, sc, fb, e => kCmp (copP op) (chkE c a sc fb) (chkE c b sc fb) e
  | .cmp2 op op' a b d, sc, fb, e => kCmp2 (copP op) (copP op') (chkE c a sc fb) (chkE c b sc fb) (chkE c d sc fb) e
  | .notv a, sc, fb, e => kUn .Not (chkE c a sc fb) e
  | .andv a b, sc, fb, e => kBool .And (chkE c a sc fb) (chkE c b sc fb) e
  | .orv a b, sc, fb, e => kBool .Or (chkE c a sc fb) (chkE c b sc fb) e
  | .ife t a b, sc, fb, e => kIf (chkT c t sc fb) (chkE c a sc fb) (chkE c b sc fb) e
  | .sub a b, sc, fb, e => kSub (chkE c a sc fb) (chkE c b sc fb) e
  | .slc a lo hi, sc, fb, e => kSlc (chkE c a sc fb) (chkO c lo sc fb) (chkO c hi sc fb) e
  | .rev a, sc, fb, e => kRev (chkE c a sc fb) e
  | .call f es, sc, fb, e => kFn (fun x => glob sc x && okName x && decide ((c.fns[f]?.map (·.1)) = some x)) ((c.fns[f]?.map (·.2)).getD []) (chkA c es sc fb) e
  | .blt b es, sc, fb, e => kCall (fun x => served b && glob sc x && decide (x = bltName b)) (chkA c es sc fb) e
  | .isi a k, sc, fb, e => kIsi sc k (chkE c a sc fb) e
  | .met t o es, sc, fb, e => metOk t && chkM c es sc fb t (chkE c o sc fb) e
  | .comp p vs it t a, sc, fb, e => kComp c sc p vs (chkW c it sc fb) (fun sc' fb' es => (isYes t && es.isEmpty) || k1 (chkT c t sc' fb') es) (fun sc' fb' => chkE c a sc' fb') e
  | .own a, sc, fb, e => (isNew a || isSlc a) && chkE c a sc fb e
  | .frz a, sc, fb, e => chkE c a sc fb e
def chkM (c : Cfg) : Exs → Scope → (PySem.Str → Bool) → Met → PEx → Expr → Bool
  | .nil, _, _, _, _, _ => false
  | .cons a r, sc, fb, t, o, e => (match r with | .nil => true | _ => false) && kMet t o (chkE c a sc fb) e
def chkT (c : Cfg) : Ts → Scope → (PySem.Str → Bool) → Expr → Bool
  | .and a b, sc, fb, e => kBool .And (chkT c a sc fb) (chkT c b sc fb) e
  | .or a b, sc, fb, e => kBool .Or (chkT c a sc fb) (chkT c b sc fb) e
  | .not a, sc, fb, e => kUn .Not (chkT c a sc fb) e
  | .ex a, sc, fb, e => (isCmp a || plainT e) && chkE c a sc fb e
  | .yes, _, _, _ => false
def chkO (c : Cfg) : Ox → Scope → (PySem.Str → Bool) → Option Expr → Bool
  | .none, _, _, e => e.isNone
  | .some a, sc, fb, e => match e with
    | some x => chkE c a sc fb x
    | none => false
def chkA (c : Cfg) : Exs → Scope → (PySem.Str → Bool) → List Expr → Bool
  | .nil, _, _, e => e.isEmpty
  | .cons a r, sc, fb, e => match e with
    | x :: t => notStar x && chkE c a sc fb x && chkA c r sc fb t
    | [] => false
def chkI (c : Cfg) : Its → Scope → (PySem.Str → Bool) → List Expr → Bool
  | .nil, _, _, e => e.isEmpty
  | .one a r, sc, fb, e => match e with
    | x :: t => notStar x && chkE c a sc fb x && chkI c r sc fb t
    | [] => false
  | .star a r, sc, fb, e => match e with
    | x :: t => kStar (chkE c a sc fb) x && chkI c r sc fb t
    | [] => false
def chkW (c : Cfg) : It → Scope → (PySem.Str → Bool) → Expr → Expr → Bool
  | .seq a, sc, fb, _, e => chkE c a sc fb e
  | .range1 a, sc, fb, _, e => kRng sc (k1 (chkE c a sc fb)) e
  | .range2 a b, sc, fb, _, e => kRng sc (k2 (chkE c a sc fb) (chkE c b sc fb)) e
  | .range3 _ _ _, _, _, _, _ => false
  | .enum _, _, _, _, _ => false
  | .zip _ _, _, _, _, _ => false
end
theorem chkE_test {c : Cfg} {i : Nat} {sc : Scope} {fb : PySem.Str → Bool} {e : Expr} : chkE c (.var i) sc fb e = kVar c sc i e := rfl
end DL

set_option Elab.async false
set_option linter.all false
set_option maxRecDepth 100000
set_option maxHeartbeats 4000000
namespace DL
open PySem L2
/-- where one stands, and the text's side of it -/
structure Ok (X : Cx) (c : Cfg) (G : Nat → Option Fn) (fld : Addr → PySem.Str) (k : Nat) (sc : Scope) (fb : PySem.Str → Bool) : Prop where
  g : Gk X c G fld k
  sc : X.env.scope = sc
  fb : ∀ x, fb x = true → X.fn x = true
  gls : ∀ x d, c.gls.lookup x = some d → ∃ v u, X.mg x = some u ∧ RelV v u ∧ ∀ F, RelD X.K F v d
section
variable {c : Cfg} {G : Nat → Option Fn} {fld : Addr → PySem.Str} {k : Nat} {X : Cx} {sc : Scope} {fb : PySem.Str → Bool}
theorem Ok.blk (o : Ok X c G fld k sc fb) (s : Shared) (H : Hp) (scope : Scope) (C : Addr) (cl : List (PySem.Str × Addr)) (fp : List Addr) :
    Ok (X.blk s H scope (compEnvC scope cl C X.env) fp) c G fld k (relS scope sc) (fun x => scope.names.lookup x == some .cell) :=
  ⟨⟨o.g.N, o.g.nd, o.g.calm, o.g.room, fun f x g h1 h2 => ⟨(o.g.fns f x g h1 h2).ex⟩, o.g.blt⟩, by rw [← o.sc]; rfl, fun x h => h, o.gls⟩
theorem Ok.gl (o : Ok X c G fld k sc fb) {x : PySem.Str} (h : glob sc x = true) : Gl X x := by
  unfold glob at h
  show X.env.scope.names.lookup x = some .globalImplicit
  rw [o.sc]
  split at h
  · assumption
  · cases h
theorem Ok.vis (o : Ok X c G fld k sc fb) {x : PySem.Str} (h : vis sc x = true) : Vis X.env.scope x := by
  unfold DL.vis at h
  unfold Vis
  rw [o.sc]
  split at h
  · exact .inl (by assumption)
  · exact .inr (.inl (by assumption))
  · exact .inr (.inr (by assumption))
  · cases h
theorem Ok.loc (o : Ok X c G fld k sc fb) {x : PySem.Str} (h : loc sc x = true) : Loc X.env.scope x := by
  unfold DL.loc at h
  unfold L2.Loc
  rw [o.sc]
  split at h
  · exact .inl (by assumption)
  · exact .inr (by assumption)
  · cases h
theorem Ok.isLocal (o : Ok X c G fld k sc fb) {x : PySem.Str} (h : isLocal sc x = true) : X.env.scope.names.lookup x = some .local := by
  unfold DL.isLocal at h
  rw [o.sc]
  split at h
  · assumption
  · cases h
theorem Ok.at_ (o : Ok X c G fld k sc fb) {i : Nat} {x : PySem.Str} (h : c.N[i]? = some x) : X.N[i]? = some x := by rw [o.g.N]; exact h
theorem okName_of {x : PySem.Str} (h : okName x = true) : (x == ("__debug__" : PySem.Str)) = false ∧ (x == ("__classdict__" : PySem.Str)) = false ∧ x ≠ "__name__" := by
  unfold okName at h
  simp only [Bool.and_eq_true, Bool.not_eq_true'] at h
  refine ⟨h.1.1, h.1.2, fun e => ?_⟩
  subst e
  simp at h
theorem blt_mem (b : Blt) : bltName b ∈ bltNames := by cases b <;> decide +kernel
theorem kind_mem (k : Kind) (h : kPlain k = true) : kStr k ∈ bltNames := by cases k <;> first | (cases h; done) | decide +kernel
theorem cst_rel {d : DV} {K : PySem.W.Frag} : ∀ {d' : DV} {v : V}, cstEq d d' = true → (∀ F, RelD K F v d') → ∀ F, RelD K F v d := by
  intro d' v h r F
  have e : d = d' := by
    cases d <;> cases d' <;> simp_all [cstEq]
  rw [e]
  exact r F
theorem str_rel {x : PySem.Str} {d : DV} {K : PySem.W.Frag} (h : cstEq d (.str x.cps.toList) = true) (F : Hp) : RelD K F (.str x) d := by
  cases d <;> simp [cstEq] at h
  rename_i s
  obtain ⟨e, h2⟩ := h
  rw [e] at h2 ⊢
  refine .str x fun q hq => ?_
  unfold okSigns at h2
  have := List.all_eq_true.mp h2 q hq
  simpa using this
theorem snd_cst (o : Ok X c G fld k sc fb) {W : WX} {d : DV} {e : Expr} (h : chkC c sc d e = true) : PE X e (tL X.K G fld W (.cst d)) := by
  unfold chkC at h
  split at h
  · exact s_cst pe_non (cst_rel h fun F => .non)
  · exact s_cst pe_bl (cst_rel h fun F => .bl _)
  · exact s_cst pe_int (cst_rel h fun F => .int _)
  · exact s_cst pe_str fun F => str_rel h F
  · simp only [Bool.and_eq_true] at h
    obtain ⟨⟨h1, h2⟩, h3⟩ := h
    split at h3
    · rename_i v e
      obtain ⟨w, u, hm, r, rd⟩ := o.gls _ _ e
      exact s_cst (pe_glob (o.gl h1) hm r (okName_of h2).1) (cst_rel h3 rd)
    · cases h3
  · cases h
theorem asg_of {e : Expr} {es : List Expr} {env : PySem.Env} (h : notStar e = true) : assignEach (e :: es) env = (false, assign e env) :: assignEach es env := by
  cases e <;> first | (cases h; done) | rfl
theorem pat_star : ∀ {p : Pat} {e : Expr}, chkP c sc fb p e = true → notStar e = true := by
  intro p e h
  cases e <;> first | rfl | (cases p <;> simp [chkP] at h)
theorem snd_pat (o : Ok X c G fld k sc fb) : ∀ (p : Pat) {e : Expr}, chkP c sc fb p e = true → PG X e (gP X.K p)
  | .name i, e, h => by
    unfold chkP at h
    split at h
    · simp only [Bool.and_eq_true, decide_eq_true_eq, Bool.or_eq_true] at h
      obtain ⟨⟨h1, h2⟩, h3⟩ := h
      rename_i e1
      cases e1
      refine pg_name o.g.nd (o.at_ h1) (o.loc h2) ?_
      rcases h3 with z | z
      · exact .inl (o.fb _ z)
      · exact .inr (o.isLocal z)
    · rename_i e1
      cases e1
    · cases h
  | .pair a b, e, h => by
    unfold chkP at h
    split at h
    · rename_i e1
      cases e1
    · rename_i e1
      cases e1
      simp only [Bool.and_eq_true] at h
      have sa := pat_star h.1
      have sb := pat_star h.2
      refine pg_tup o.g.calm (pgs_cons (snd_pat o a h.1) (pgs_cons (snd_pat o b h.2) pgs_nil ?_) ?_) ?_ ?_
      · rw [asg_of sb]; rfl
      · rw [asg_of sa]; rfl
      · rw [asg_of sa, asg_of sb]; rfl
      · rw [asg_of sa, asg_of sb]; rfl
    · cases h
theorem n_list {a : Expr} {ma : Ex} {W : WX} {p pos : Pos} (o : Ok X c G fld k sc fb) (hgl : Gl X "list") (ha : PE X a (tL X.K G fld W ma)) (hs : notStar a = true) : PE X (.Call (.Name "list" p) [a] [] pos) (tN X.K G fld W (.blt .list (.cons ma .nil))) := by
  refine PEimp (pe_callTy call_list_of hgl (o.g.blt "list" (by decide +kernel)) (by decide +kernel) (pa_cons ha pa_nil (star_of hs)) (by decide +kernel) (by decide +kernel) (star_of hs) (by rfl)) fun σ H Q ⟨r, m, Z, F, Qd, Ed, w, sl, hq, post, xp⟩ => ?_
  simp only [rdE, rdA] at hq
  refine ⟨r, m, Z, F, _, Ed, w, sl, hq, fun d1 m1 v1 H1 F1 q1 e1 w1 r1 => ?_, xp⟩
  exact call_list_new w1 (.cons r1 .nil) q1 fun d v H' hk w' fr => post d m1 v H' F1 hk e1 w' fr
theorem s_ex {a : Expr} {ma : Ex} {W : WX} (ha : PE X a (tL X.K G fld W ma)) (hp : plainT a = true) : PT X a (tLT X.K G fld W (.ex ma)) := by
  refine PTimp (pt_truth ha (plainT_of hp)) fun σ H Q ⟨r, m, Z, F, Qd, Ed, w, sl, hq, post, xp⟩ => ?_
  simp only [rdT] at hq
  refine ⟨r, m, Z, F, _, Ed, w, sl, hq, fun d1 m1 v1 H1 F1 q1 e1 w1 r1 => ?_, xp⟩
  obtain ⟨b, hb, hk⟩ := q1
  exact ⟨b, tru_ok w1 r1 hb, post b m1 b H1 F1 hk e1 w1 rfl⟩
theorem s_cmp2T {a b d : Expr} {ma mb md : Ex} {W : WX} {op op' : COp} {pos : Pos} (hr : Room k X.A) (ha : PE X a (tL X.K G fld W ma)) (hb : PE X b (tL X.K G fld W mb)) (hc : PE X d (tL X.K G fld W md)) (hm : lastMarks [copP op, copP op'] [b, d] = false) :
    PT X (.Compare a [copP op, copP op'] [b, d] pos) (tLT X.K G fld W (.ex (.cmp2 op op' ma mb md))) := by
  refine PTimp (pt_chain (op_cmp hr op) (op_cmp hr op') ha hb hc hm) fun σ H Q ⟨r, m, Z, F, Qd, Ed, w, sl, hq, post, xp⟩ => ?_
  simp only [rdT, rdE] at hq
  refine ⟨r, m, Z, F, _, Ed, w, sl, hq, fun d1 m1 v1 H1 F1 q1 e1 w1 r1 => ?_, xp⟩
  refine ⟨r, m1, Z, F1, _, Ed, w1, sl.mono e1.sm, q1, fun d2 m2 v2 H2 F2 q2 e2 w2 r2 => ?_, xp.ext e1⟩
  refine cmp_ok w2 (r1.mono e2.sm) r2 q2 fun b hk => ?_
  obtain ⟨c, hc, hk⟩ := hk
  cases hc
  refine ⟨b, rfl, ?_⟩
  cases b with
  | false =>
    rw [if_neg (by decide)] at hk
    obtain ⟨q, hq, hk⟩ := hk
    cases hq
    exact ⟨false, rfl, post _ m2 _ H2 F2 hk (e1.trans e2) w2 rfl⟩
  | true =>
    rw [if_pos rfl] at hk
    refine ⟨r, m2, Z, F2, _, Ed, w2, sl.mono (e1.trans e2).sm, hk, fun d3 m3 v3 H3 F3 q3 e3 w3 r3 => ?_, xp.ext (e1.trans e2)⟩
    refine cmp_ok w3 (r2.mono e3.sm) r3 q3 fun b hk => ?_
    obtain ⟨q, hq, hk⟩ := hk
    cases hq
    exact ⟨b, rfl, post b m3 b H3 F3 hk (e1.trans (e2.trans e3)) w3 rfl⟩
/-- a comprehension, by its parts -/
theorem comp_parts {p : Pat} {vs : List Nat} {it : It} {t : Ts} {a : Ex} {W : WX} {elt tg iter : Expr} {ifs : List Expr} {scope : Scope} {pos : Pos} (o : Ok X c G fld k sc fb)
    (hset : notSet iter = true) (hblk : blkC c.N sc scope (ownOf c.N vs) = true) (hvs : (ownOf c.N vs).map (·.2) = vs) (hps : (pslots p).all (fun i => decide (i ∈ vs)) = true)
    (hW : PI X tg iter (tLW X.K G fld W it)) (hP : chkP c (relS scope sc) (fun x => scope.names.lookup x == some .cell) p tg = true)
    (hT : ∀ X' : Cx, X'.K = X.K → Ok X' c G fld k (relS scope sc) (fun x => scope.names.lookup x == some .cell) → PTs X' ifs (tLT X'.K G fld (fun _ _ _ _ => False) t))
    (hE : ∀ X' : Cx, X'.K = X.K → Ok X' c G fld k (relS scope sc) (fun x => scope.names.lookup x == some .cell) → PE X' elt (tL X'.K G fld (fun _ _ _ _ => False) a)) :
    (∀ σ H Q, tN X.K G fld W (.comp p vs it t a) σ H Q → tLc (tLW X.K G fld W it) (gP X.K p) (tLT X.K G fld (fun _ _ _ _ => False) t) (tL X.K G fld (fun _ _ _ _ => False) a) ((ownOf c.N vs).map (·.2)) σ H Q) ∧
      PE X (.ListComp elt [⟨tg, iter, ifs, 0⟩] scope pos) (tN X.K G fld W (.comp p vs it t a)) := by
  have blk : BlkOk X.N X.env.scope scope (ownOf c.N vs) := by rw [o.g.N, o.sc]; exact blkOk_by hblk
  have pg := fun (s : Shared) (H : Hp) (C : Addr) (cl : List (PySem.Str × Addr)) (fp : List Addr) => snd_pat (o.blk s H scope C cl fp) p hP
  have pt := fun (s : Shared) (H : Hp) (C : Addr) (cl : List (PySem.Str × Addr)) (fp : List Addr) => hT (X.blk s H scope (compEnvC scope cl C X.env) fp) rfl (o.blk s H scope C cl fp)
  have pe := fun (s : Shared) (H : Hp) (C : Addr) (cl : List (PySem.Str × Addr)) (fp : List Addr) => hE (X.blk s H scope (compEnvC scope cl C X.env) fp) rfl (o.blk s H scope C cl fp)
  have key := n_comp (W := W) o.g.calm o.g.nd hW blk hvs (fun i hi => by simpa using List.all_eq_true.mp hps i hi) pg pt pe (folded_of hset)
  exact ⟨key, PEimp (pe_lc o.g.calm o.g.nd hW blk pg pt pe (folded_of hset)) key⟩
end
end DL

set_option Elab.async false
set_option linter.all false
set_option maxRecDepth 100000
set_option maxHeartbeats 8000000
namespace DL
open PySem L2
section
variable {c : Cfg} {G : Nat → Option Fn} {fld : Addr → PySem.Str} {k : Nat}
/-- every def that a text calls is in the table -/
def inTab (G : Nat → Option Fn) (c : Cfg) : Prop := ∀ (f : Nat) (x : PySem.Str × List PySem.Str), c.fns[f]? = some x → ∃ g, G f = some g
abbrev SE (c : Cfg) (G : Nat → Option Fn) (fld : Addr → PySem.Str) (k : Nat) (m : Ex) : Prop := ∀ {X : Cx} {sc : Scope} {fb : PySem.Str → Bool} {e : Expr} {W : WX}, Ok X c G fld k sc fb → Takes X W → chkE c m sc fb e = true → PE X e (tL X.K G fld W m)
abbrev ST (c : Cfg) (G : Nat → Option Fn) (fld : Addr → PySem.Str) (k : Nat) (m : Ts) : Prop := ∀ {X : Cx} {sc : Scope} {fb : PySem.Str → Bool} {e : Expr} {W : WX}, Ok X c G fld k sc fb → Takes X W → chkT c m sc fb e = true → PT X e (tLT X.K G fld W m)
abbrev SO (c : Cfg) (G : Nat → Option Fn) (fld : Addr → PySem.Str) (k : Nat) (m : Ox) : Prop := ∀ {X : Cx} {sc : Scope} {fb : PySem.Str → Bool} {e : Option Expr} {W : WX}, Ok X c G fld k sc fb → Takes X W → chkO c m sc fb e = true → PO X e (tLO X.K G fld W m)
abbrev SA (c : Cfg) (G : Nat → Option Fn) (fld : Addr → PySem.Str) (k : Nat) (m : Exs) : Prop := ∀ {X : Cx} {sc : Scope} {fb : PySem.Str → Bool} {e : List Expr} {W : WX}, Ok X c G fld k sc fb → Takes X W → chkA c m sc fb e = true → PA X e (tLA X.K G fld W m)
abbrev SI (c : Cfg) (G : Nat → Option Fn) (fld : Addr → PySem.Str) (k : Nat) (m : Its) : Prop := ∀ {X : Cx} {sc : Scope} {fb : PySem.Str → Bool} {e : List Expr} {W : WX}, Ok X c G fld k sc fb → Takes X W → chkI c m sc fb e = true → PA X e (tLI X.K G fld W m)
abbrev SW (c : Cfg) (G : Nat → Option Fn) (fld : Addr → PySem.Str) (k : Nat) (m : It) : Prop := ∀ {X : Cx} {sc : Scope} {fb : PySem.Str → Bool} {tg e : Expr} {W : WX}, Ok X c G fld k sc fb → Takes X W → chkW c m sc fb tg e = true → PI X tg e (tLW X.K G fld W m)
/-- and its form as a new list -/
abbrev SN (c : Cfg) (G : Nat → Option Fn) (fld : Addr → PySem.Str) (k : Nat) (m : Ex) : Prop := ∀ {X : Cx} {sc : Scope} {fb : PySem.Str → Bool} {e : Expr} {W : WX}, Ok X c G fld k sc fb → Takes X W → isNew m = true → chkE c m sc fb e = true → PE X e (tN X.K G fld W m)
theorem z_var (i : Nat) : SE c G fld k (.var i) := fun o tk h => by
  obtain ⟨x, p, rfl, h1, h2, h3⟩ := kVar_inv h
  exact s_var (pe_var (o.at_ h1) (o.vis h2) (okName_of h3).1 (okName_of h3).2.1)
theorem z_tup {es : Its} (i : SI c G fld k es) : SE c G fld k (.tup es) := fun o tk h => by
  obtain ⟨xs, q, p, rfl, h1⟩ := kTup_inv h
  exact s_tup (i o tk h1)
theorem zn_lst {es : Its} (i : SI c G fld k es) : SN c G fld k (.lst es) := fun o tk _ h => by
  obtain ⟨xs, p, rfl, h1⟩ := kLst_inv h
  exact n_lst (i o tk h1)
theorem z_bin {op : BOp} {a b : Ex} (ia : SE c G fld k a) (ib : SE c G fld k b) : SE c G fld k (.bin op a b) := fun o tk h => by
  obtain ⟨x, y, p, rfl, h1, h2⟩ := kBin_inv h
  exact s_bin (ia o tk h1) (ib o tk h2)
theorem z_neg {a : Ex} (ia : SE c G fld k a) : SE c G fld k (.neg a) := fun o tk h => by
  obtain ⟨x, p, rfl, h1⟩ := kUn_inv h
  exact s_neg (ia o tk h1)
theorem z_notv {a : Ex} (ia : SE c G fld k a) : SE c G fld k (.notv a) := fun o tk h => by
  obtain ⟨x, p, rfl, h1⟩ := kUn_inv h
  exact s_notv (ia o tk h1)
theorem z_cmp {op : COp} {a b : Ex} (ia : SE c G fld k a) (ib : SE c G fld k b) : SE c G fld k (.cmp op a b) := fun o tk h => by
  obtain ⟨x, y, p, rfl, h0, h1, h2⟩ := kCmp_inv h
  exact s_cmp o.g.room (ia o tk h1) (ib o tk h2) (marks_of h0)
theorem z_cmp2 {op op' : COp} {a b d : Ex} (ia : SE c G fld k a) (ib : SE c G fld k b) (id : SE c G fld k d) : SE c G fld k (.cmp2 op op' a b d) := fun o tk h => by
  obtain ⟨x, y, z, p, rfl, h0, h1, h2, h3⟩ := kCmp2_inv h
  exact s_cmp2 o.g.room (ia o tk h1) (ib o tk h2) (id o tk h3) (marks_of (op := copP op') h0)
theorem z_andv {a b : Ex} (ia : SE c G fld k a) (ib : SE c G fld k b) : SE c G fld k (.andv a b) := fun o tk h => by
  obtain ⟨x, y, p, h1, ⟨rfl, h2⟩ | ⟨z, r, rfl, h2⟩⟩ := kBool_inv h
  · exact s_andv (ia o tk h1) (pe_one (ib o tk h2))
  · exact s_andv (ia o tk h1) (ib o tk h2)
theorem z_orv {a b : Ex} (ia : SE c G fld k a) (ib : SE c G fld k b) : SE c G fld k (.orv a b) := fun o tk h => by
  obtain ⟨x, y, p, h1, ⟨rfl, h2⟩ | ⟨z, r, rfl, h2⟩⟩ := kBool_inv h
  · exact s_orv (ia o tk h1) (pe_one (ib o tk h2))
  · exact s_orv (ia o tk h1) (ib o tk h2)
theorem z_ife {t : Ts} {a b : Ex} (it : ST c G fld k t) (ia : SE c G fld k a) (ib : SE c G fld k b) : SE c G fld k (.ife t a b) := fun o tk h => by
  obtain ⟨q, x, y, p, rfl, h1, h2, h3⟩ := kIf_inv h
  exact s_ife (it o tk h1) (ia o tk h2) (ib o tk h3)
theorem z_sub {a b : Ex} (ia : SE c G fld k a) (ib : SE c G fld k b) : SE c G fld k (.sub a b) := fun o tk h => by
  obtain ⟨x, y, p, rfl, h0, h1, h2⟩ := kSub_inv h
  exact s_sub (ia o tk h1) (ib o tk h2) (plainIx_of h0)
theorem z_slc {a : Ex} {lo hi : Ox} (ia : SE c G fld k a) (il : SO c G fld k lo) (ih : SO c G fld k hi) : SE c G fld k (.slc a lo hi) := fun o tk h => by
  obtain ⟨x, l, hh, p2, p, rfl, h1, h2, h3⟩ := kSlc_inv h
  exact s_slc (ia o tk h1) (il o tk h2) (ih o tk h3)
/-- the parts of an argument list -/
inductive AllE (p : Ex → Prop) : Exs → Prop
  | nil : AllE p .nil
  | cons {a : Ex} {r : Exs} : p a → AllE p r → AllE p (.cons a r)
theorem sa_kw2 {X : Cx} {sc : Scope} {fb : PySem.Str → Bool} {W : WX} (o : Ok X c G fld k sc fb) (tk : Takes X W) : ∀ {es : Exs} {kws : List Keyword}, AllE (SE c G fld k) es → chkA c es sc fb (kwEs kws) = true → PK X kws (tLA X.K G fld W es)
  | .nil, [], _, _ => s_kwnil
  | .nil, ⟨_, _, _⟩ :: _, _, h => by
    have h' : (false : Bool) = true := h
    cases h'
  | .cons _ _, [], _, h => by cases h
  | .cons m r, ⟨nm, e, kp⟩ :: t, .cons i1 i2, h => by
    have h' : (notStar e && chkE c m sc fb e && chkA c r sc fb (kwEs t)) = true := h
    simp only [Bool.and_eq_true] at h'
    exact s_kwcons (i1 o tk h'.1.2) (sa_kw2 o tk i2 h'.2)
theorem z_call (ht : inTab G c) {f : Nat} {es : Exs} (ie : AllE (SE c G fld k) es) (i : SA c G fld k es) : SE c G fld k (.call f es) := fun {X sc fb e W} o tk h => by
  obtain ⟨x, px, as, kws, p, rfl, h1, h2⟩ := kFn_inv h
  simp only [Bool.and_eq_true, decide_eq_true_eq] at h1
  obtain ⟨⟨h1, h5⟩, h6⟩ := h1
  cases hf : c.fns[f]? with
  | none => rw [hf] at h6; cases h6
  | some q =>
    obtain ⟨x', ks⟩ := q
    rw [hf] at h6 h2
    cases h6
    obtain ⟨g, hg⟩ := ht f _ hf
    have hfa := o.g.fns f _ g hf hg
    rcases h2 with ⟨e1, rfl, h3, h4⟩ | ⟨e1, rfl, h3, h4⟩
    · have e1 : ks = [] := e1
      subst e1
      cases as with
      | nil =>
        cases es with
        | nil => exact s_call0 hg o.g.room hfa (o.gl h1) tk (okName_of h5).1
        | cons _ _ => cases h3
      | cons y ys =>
        simp only [List.all_cons, Bool.and_eq_true] at h4
        exact s_call hg o.g.room hfa (o.gl h1) tk (i o tk h3) (okName_of h5).1 (star_of h4.1) (back_of h4.2)
    · exact s_callk hg o.g.room hfa e1 (o.gl h1) tk (sa_kw2 o tk ie h4) h3 (okName_of h5).1
theorem z_blt {b : Blt} {es : Exs} (i : SA c G fld k es) : SE c G fld k (.blt b es) := fun o tk h => by
  obtain ⟨x, px, y, ys, p, rfl, h1, h2, h3, h4⟩ := kCall_inv h
  simp only [Bool.and_eq_true, decide_eq_true_eq] at h1
  obtain ⟨⟨h1, h5⟩, rfl⟩ := h1
  exact s_blt o.g.calm h1 (o.gl h5) (o.g.blt _ (blt_mem b)) (i o tk h2) (star_of h3) (back_of h4)
theorem zn_list {a : Ex} (ia : SE c G fld k a) : SN c G fld k (.blt .list (.cons a .nil)) := fun o tk _ h => by
  obtain ⟨x, px, y, ys, p, rfl, h1, h2, h3, h4⟩ := kCall_inv h
  simp only [Bool.and_eq_true, decide_eq_true_eq] at h1
  obtain ⟨⟨h1, h5⟩, rfl⟩ := h1
  have h2' : (notStar y && chkE c a _ _ y && ys.isEmpty) = true := h2
  simp only [Bool.and_eq_true] at h2'
  obtain ⟨⟨h6, h7⟩, h8⟩ := h2'
  cases ys with
  | nil => exact n_list o (o.gl h5) (ia o tk h7) h6
  | cons _ _ => cases h8
theorem z_isi {a : Ex} {t : Kind} (ia : SE c G fld k a) : SE c G fld k (.isi a t) := fun o tk h => by
  obtain ⟨px, y, pt, p, rfl, h1, h2, h3, h4, h5⟩ := kIsi_inv h
  exact s_isi h1 (o.gl h2) (o.g.blt _ (by decide +kernel)) (o.gl h3) (o.g.blt _ (kind_mem t h1)) (ia o tk h5) (star_of h4)
theorem z_met {t : Met} {ob a : Ex} (io : SE c G fld k ob) (ia : SE c G fld k a) : SE c G fld k (.met t ob (.cons a .nil)) := fun {X sc fb e W} o tk h => by
  have h' : (metOk t && (true && kMet t (chkE c ob sc fb) (chkE c a sc fb) e)) = true := h
  simp only [Bool.and_eq_true, Bool.true_and] at h'
  obtain ⟨h0, h⟩ := h'
  obtain ⟨y, ap, x, p, rfl, h1, h2, h3, h4, h5⟩ := kMet_inv h
  cases t with
  | append => exact s_append (io o tk h4) (ia o tk h5) (base_of h1) (star_of h2) h3
  | pop => exact s_pop (io o tk h4) (ia o tk h5) (base_of h1) (star_of h2) h3
  | join => exact s_join (io o tk h4) (ia o tk h5) (base_of h1) (star_of h2) h3
  | pop0 => cases h0
  | split => cases h0
theorem zn_comp {p : Pat} {vs : List Nat} {it : It} {t : Ts} {a : Ex} (iw : SW c G fld k it) (it' : ST c G fld k t) (ia : SE c G fld k a) : SN c G fld k (.comp p vs it t a) := fun {X sc fb e W} o tk _ h => by
  obtain ⟨elt, tg, iter, ifs, scope, ps, rfl, h1, h2, h3, h4, h5, h6, h7, h8⟩ := kComp_inv h
  refine (comp_parts o h1 h2 h3 h4 (iw o tk h5) h6 (fun X' eK o' => ?_) (fun X' eK o' => ia o' takes0 h8)).2
  simp only [Bool.or_eq_true, Bool.and_eq_true] at h7
  rcases h7 with ⟨h7, h9⟩ | h7
  · cases ifs with
    | cons _ _ => cases h9
    | nil =>
      cases t <;> first | (cases h7; done) | skip
      exact ⟨fun pins s σ H Q I hw => pts_nil.run pins s σ H Q I (by
        obtain ⟨r, m, Z, F, Qd, Ed, w, sl, hq, post, xp⟩ := hw
        exact post true m true H F hq (Ext.refl Z F) w rfl)⟩
  · match ifs, h7 with
    | [q], h7 => exact pts_one (it' o' takes0 h7)
theorem z_own {a : Ex} (hs : isSlc a = false) (ia : SN c G fld k a) : SE c G fld k (.own a) := fun {X sc fb e W} o tk h => by
  have h' : ((isNew a || isSlc a) && chkE c a sc fb e) = true := h
  rw [hs, Bool.or_false] at h'
  simp only [Bool.and_eq_true] at h'
  exact PE.owned (ia o tk h'.1 h'.2)
theorem s_ownslc {X : Cx} {W : WX} {a : Expr} {ma : Ex} {pos : Pos} {lo hi : Option Expr} {ml mh : Ox} {p2 : Pos} (ha : PE X a (tL X.K G fld W ma)) (hl : PO X lo (tLO X.K G fld W ml)) (hh : PO X hi (tLO X.K G fld W mh)) :
    PE X (.Subscript a (.Slice lo hi none p2) pos) (tL X.K G fld W (.own (.slc ma ml mh))) := by
  refine PEimp (pe_slice sl_list ha hl hh) fun σ H Q ⟨r, m, Z, F, Qd, Ed, w, sl, hq, post, xp⟩ => ?_
  simp only [rdE] at hq
  refine ⟨r, m, Z, F, _, Ed, w, sl, hq, fun d1 m1 v1 H1 F1 q1 e1 w1 r1 => ?_, xp⟩
  refine ⟨r, m1, Z, F1, _, Ed, w1, sl.mono e1.sm, q1, fun i m2 i' H2 F2 q2 e2 w2 r2 => ?_, xp.ext e1⟩
  cases r2
  refine ⟨r, m2, Z, F2, _, Ed, w2, sl.mono (e1.trans e2).sm, q2, fun j m3 j' H3 F3 q3 e3 w3 r3 => ?_, xp.ext (e1.trans e2)⟩
  cases r3
  have r1' := r1.mono (e2.trans e3).sm
  have e13 := e1.trans (e2.trans e3)
  unfold cutD at q3
  split at q3
  · rename_i xs e
    obtain ⟨p, vs, rfl, hp, rs, hl⟩ := w3.lst r1' e
    refine ⟨p, vs, rfl, SqL.of hp, fun q hq => ?_⟩
    obtain ⟨w', hm⟩ := w3.own hq (o := .lst (cutV vs i j)) (u := .lst (cut xs i j)) ⟨_, upd_same, cutV_rel rs i j, Nat.le_trans (cutV_len vs i j) hl⟩
    exact post _ _ _ _ F3 (q3 q hm) e13 w' (.loc q)
  · exact q3.elim
  · exact q3.2.elim
  · exact q3.elim
theorem z_ownslc {a : Ex} {lo hi : Ox} (ia : SE c G fld k a) (il : SO c G fld k lo) (ih : SO c G fld k hi) : SE c G fld k (.own (.slc a lo hi)) := fun {X sc fb e W} o tk h => by
  have h' : (true && chkE c (.slc a lo hi) sc fb e) = true := h
  rw [Bool.true_and] at h'
  obtain ⟨x, l, hh, p2, p, rfl, h1, h2, h3⟩ := kSlc_inv h'
  exact s_ownslc (ia o tk h1) (il o tk h2) (ih o tk h3)
theorem z_rev {a : Ex} (ia : SE c G fld k a) : SE c G fld k (.rev a) := fun o tk h => by
  obtain ⟨x, q, p1, p2, p3, p, rfl, h1⟩ := kRev_inv h
  exact s_rev (ia o tk h1)
theorem z_frz {a : Ex} (ia : SE c G fld k a) : SE c G fld k (.frz a) := fun o tk h => s_frz (ia o tk h)
theorem SN.se {a : Ex} (h : isNew a = true) (ia : SN c G fld k a) : SE c G fld k a := fun o tk q => PE.frozen (ia o tk h q)
theorem z_tand {a b : Ts} (ia : ST c G fld k a) (ib : ST c G fld k b) : ST c G fld k (.and a b) := fun o tk h => by
  obtain ⟨x, y, p, h1, ⟨rfl, h2⟩ | ⟨z, r, rfl, h2⟩⟩ := kBool_inv h
  · exact PW.pt (s_tand (ia o tk h1) (pw_and1 (ib o tk h2)))
  · exact PW.pt (s_tand (ia o tk h1) ⟨fun wh pins s σ H Q I q => (ib o tk h2).run pins s σ H Q I q⟩)
theorem z_tor {a b : Ts} (ia : ST c G fld k a) (ib : ST c G fld k b) : ST c G fld k (.or a b) := fun o tk h => by
  obtain ⟨x, y, p, h1, ⟨rfl, h2⟩ | ⟨z, r, rfl, h2⟩⟩ := kBool_inv h
  · exact PW.pt (s_tor (ia o tk h1) (pw_or1 (ib o tk h2)))
  · exact PW.pt (s_tor (ia o tk h1) ⟨fun wh pins s σ H Q I q => (ib o tk h2).run pins s σ H Q I q⟩)
theorem z_tnot {a : Ts} (ia : ST c G fld k a) : ST c G fld k (.not a) := fun o tk h => by
  obtain ⟨x, p, rfl, h1⟩ := kUn_inv h
  exact s_tnot (ia o tk h1)
theorem z_ex {a : Ex} (ia : SE c G fld k a) (hn : isCmp a = false) : ST c G fld k (.ex a) := fun {X sc fb e W} o tk h => by
  have h' : ((isCmp a || plainT e) && chkE c a sc fb e) = true := h
  rw [hn] at h'
  simp only [Bool.false_or, Bool.and_eq_true] at h'
  exact s_ex (ia o tk h'.2) h'.1
theorem z_excmp {op : COp} {a b : Ex} (ia : SE c G fld k a) (ib : SE c G fld k b) : ST c G fld k (.ex (.cmp op a b)) := fun {X sc fb e W} o tk h => by
  have h' : (true && kCmp (copP op) (chkE c a sc fb) (chkE c b sc fb) e) = true := h
  rw [Bool.true_and] at h'
  obtain ⟨x, y, p, rfl, h0, h1, h2⟩ := kCmp_inv h'
  exact s_cmpT o.g.room (ia o tk h1) (ib o tk h2) (marks_of h0)
theorem z_excmp2 {op op' : COp} {a b d : Ex} (ia : SE c G fld k a) (ib : SE c G fld k b) (id : SE c G fld k d) : ST c G fld k (.ex (.cmp2 op op' a b d)) := fun {X sc fb e W} o tk h => by
  have h' : (true && kCmp2 (copP op) (copP op') (chkE c a sc fb) (chkE c b sc fb) (chkE c d sc fb) e) = true := h
  rw [Bool.true_and] at h'
  obtain ⟨x, y, z, p, rfl, h0, h1, h2, h3⟩ := kCmp2_inv h'
  exact s_cmp2T o.g.room (ia o tk h1) (ib o tk h2) (id o tk h3) (marks_of (op := copP op') h0)
end
end DL

set_option Elab.async false
set_option linter.all false
set_option maxRecDepth 100000
set_option maxHeartbeats 8000000
namespace DL
open PySem L2
section
variable {c : Cfg} {G : Nat → Option Fn} {fld : Addr → PySem.Str} {k : Nat}
theorem not_new {m : Ex} (h : isNew m = false) : SN c G fld k m := fun _ _ q _ => by rw [h] at q; cases q
mutual
theorem sndE (ht : inTab G c) : ∀ m : Ex, SE c G fld k m
  | .var i => z_var i
  | .cst d => fun o tk h => snd_cst o h
  | .tup es => z_tup (sndI ht es)
  | .lst es => SN.se rfl (zn_lst (sndI ht es))
  | .bin op a b => z_bin (sndE ht a) (sndE ht b)
  | .neg a => z_neg (sndE ht a)
  | .cmp op a b => z_cmp (sndE ht a) (sndE ht b)
  | .cmp2 op op' a b d => z_cmp2 (sndE ht a) (sndE ht b) (sndE ht d)
  | .notv a => z_notv (sndE ht a)
  | .andv a b => z_andv (sndE ht a) (sndE ht b)
  | .orv a b => z_orv (sndE ht a) (sndE ht b)
  | .ife t a b => z_ife (sndT ht t) (sndE ht a) (sndE ht b)
  | .sub a b => z_sub (sndE ht a) (sndE ht b)
  | .slc a lo hi => z_slc (sndE ht a) (sndO ht lo) (sndO ht hi)
  | .rev a => z_rev (sndE ht a)
  | .call f es => z_call ht (sndL ht es) (sndA ht es)
  | .blt b es => z_blt (sndA ht es)
  | .isi a t => z_isi (sndE ht a)
  | .met t ob (.cons a .nil) => z_met (sndE ht ob) (sndE ht a)
  | .met t ob .nil => fun o tk h => by
    have h' : (metOk t && false) = true := h
    rw [Bool.and_false] at h'
    cases h'
  | .met t ob (.cons a (.cons b r)) => by
    rename_i X sc fb e W
    intro o tk h
    have h' : (metOk t && (false && kMet t (chkE c ob sc fb) (chkE c a sc fb) e)) = true := h
    rw [Bool.false_and, Bool.and_false] at h'
    cases h'
  | .comp p vs it t a => SN.se rfl (zn_comp (sndW ht it) (sndT ht t) (sndE ht a))
  | .own (.slc a lo hi) => z_ownslc (sndE ht a) (sndO ht lo) (sndO ht hi)
  | .own (.var i) => z_own rfl (sndN ht (.var i))
  | .own (.cst i) => z_own rfl (sndN ht (.cst i))
  | .own (.tup i) => z_own rfl (sndN ht (.tup i))
  | .own (.lst i) => z_own rfl (sndN ht (.lst i))
  | .own (.bin i a b) => z_own rfl (sndN ht (.bin i a b))
  | .own (.neg i) => z_own rfl (sndN ht (.neg i))
  | .own (.cmp i a b) => z_own rfl (sndN ht (.cmp i a b))
  | .own (.cmp2 i j a b d) => z_own rfl (sndN ht (.cmp2 i j a b d))
  | .own (.notv i) => z_own rfl (sndN ht (.notv i))
  | .own (.andv a b) => z_own rfl (sndN ht (.andv a b))
  | .own (.orv a b) => z_own rfl (sndN ht (.orv a b))
  | .own (.ife i a b) => z_own rfl (sndN ht (.ife i a b))
  | .own (.sub a b) => z_own rfl (sndN ht (.sub a b))
  | .own (.rev a) => z_own rfl (sndN ht (.rev a))
  | .own (.call a b) => z_own rfl (sndN ht (.call a b))
  | .own (.blt a b) => z_own rfl (sndN ht (.blt a b))
  | .own (.isi a b) => z_own rfl (sndN ht (.isi a b))
  | .own (.met a b d) => z_own rfl (sndN ht (.met a b d))
  | .own (.comp a b d e f) => z_own rfl (sndN ht (.comp a b d e f))
  | .own (.own a) => z_own rfl (sndN ht (.own a))
  | .own (.frz a) => z_own rfl (sndN ht (.frz a))
  | .frz a => z_frz (sndE ht a)
theorem sndN (ht : inTab G c) : ∀ m : Ex, SN c G fld k m
  | .lst es => zn_lst (sndI ht es)
  | .comp p vs it t a => zn_comp (sndW ht it) (sndT ht t) (sndE ht a)
  | .blt .list (.cons a .nil) => zn_list (sndE ht a)
  | .blt .list .nil => not_new rfl
  | .blt .list (.cons _ (.cons _ _)) => not_new rfl
  | .blt .len _ => not_new rfl
  | .blt .abs _ => not_new rfl
  | .blt .int _ => not_new rfl
  | .blt .tuple _ => not_new rfl
  | .blt .sorted _ => not_new rfl
  | .blt .any _ => not_new rfl
  | .blt .all _ => not_new rfl
  | .blt .sum _ => not_new rfl
  | .blt .max2 _ => not_new rfl
  | .blt .min2 _ => not_new rfl
  | .blt .str _ => not_new rfl
  | .var _ => not_new rfl
  | .cst _ => not_new rfl
  | .tup _ => not_new rfl
  | .bin _ _ _ => not_new rfl
  | .neg _ => not_new rfl
  | .cmp _ _ _ => not_new rfl
  | .cmp2 _ _ _ _ _ => not_new rfl
  | .notv _ => not_new rfl
  | .andv _ _ => not_new rfl
  | .orv _ _ => not_new rfl
  | .ife _ _ _ => not_new rfl
  | .sub _ _ => not_new rfl
  | .slc _ _ _ => not_new rfl
  | .rev _ => not_new rfl
  | .call _ _ => not_new rfl
  | .isi _ _ => not_new rfl
  | .met _ _ _ => not_new rfl
  | .own _ => not_new rfl
  | .frz _ => not_new rfl
theorem sndT (ht : inTab G c) : ∀ m : Ts, ST c G fld k m
  | .and a b => z_tand (sndT ht a) (sndT ht b)
  | .or a b => z_tor (sndT ht a) (sndT ht b)
  | .not a => z_tnot (sndT ht a)
  | .ex (.cmp op a b) => z_excmp (sndE ht a) (sndE ht b)
  | .ex (.cmp2 op op' a b d) => z_excmp2 (sndE ht a) (sndE ht b) (sndE ht d)
  | .ex (.var i) => z_ex (sndE ht (.var i)) rfl
  | .ex (.cst i) => z_ex (sndE ht (.cst i)) rfl
  | .ex (.tup i) => z_ex (sndE ht (.tup i)) rfl
  | .ex (.lst i) => z_ex (sndE ht (.lst i)) rfl
  | .ex (.bin op a b) => z_ex (sndE ht (.bin op a b)) rfl
  | .ex (.neg a) => z_ex (sndE ht (.neg a)) rfl
  | .ex (.notv a) => z_ex (sndE ht (.notv a)) rfl
  | .ex (.andv a b) => z_ex (sndE ht (.andv a b)) rfl
  | .ex (.orv a b) => z_ex (sndE ht (.orv a b)) rfl
  | .ex (.ife t a b) => z_ex (sndE ht (.ife t a b)) rfl
  | .ex (.sub a b) => z_ex (sndE ht (.sub a b)) rfl
  | .ex (.slc a b d) => z_ex (sndE ht (.slc a b d)) rfl
  | .ex (.rev a) => z_ex (sndE ht (.rev a)) rfl
  | .ex (.call a b) => z_ex (sndE ht (.call a b)) rfl
  | .ex (.blt a b) => z_ex (sndE ht (.blt a b)) rfl
  | .ex (.isi a b) => z_ex (sndE ht (.isi a b)) rfl
  | .ex (.met a b d) => z_ex (sndE ht (.met a b d)) rfl
  | .ex (.comp a b d e f) => z_ex (sndE ht (.comp a b d e f)) rfl
  | .ex (.own a) => z_ex (sndE ht (.own a)) rfl
  | .ex (.frz a) => z_ex (sndE ht (.frz a)) rfl
  | .yes => fun o tk h => by cases h
theorem sndO (ht : inTab G c) : ∀ m : Ox, SO c G fld k m
  | .none => by
    rename_i X sc fb e W
    intro o tk h
    cases e with
    | none => exact s_onone
    | some _ => cases h
  | .some a => by
    rename_i X sc fb e W
    intro o tk h
    cases e with
    | none => cases h
    | some x => exact s_osome (sndE ht a o tk h)
theorem sndA (ht : inTab G c) : ∀ m : Exs, SA c G fld k m
  | .nil => by
    rename_i X sc fb e W
    intro o tk h
    cases e with
    | nil => exact s_anil
    | cons _ _ => cases h
  | .cons a r => by
    rename_i X sc fb e W
    intro o tk h
    cases e with
    | nil => cases h
    | cons x t =>
      have h' : (notStar x && chkE c a sc fb x && chkA c r sc fb t) = true := h
      simp only [Bool.and_eq_true] at h'
      exact s_acons (sndE ht a o tk h'.1.2) (sndA ht r o tk h'.2) (star_of h'.1.1)
theorem sndL (ht : inTab G c) : ∀ m : Exs, AllE (SE c G fld k) m
  | .nil => .nil
  | .cons a r => .cons (sndE ht a) (sndL ht r)
theorem sndI (ht : inTab G c) : ∀ m : Its, SI c G fld k m
  | .nil => by
    rename_i X sc fb e W
    intro o tk h
    cases e with
    | nil => exact s_inil
    | cons _ _ => cases h
  | .one a r => by
    rename_i X sc fb e W
    intro o tk h
    cases e with
    | nil => cases h
    | cons x t =>
      have h' : (notStar x && chkE c a sc fb x && chkI c r sc fb t) = true := h
      simp only [Bool.and_eq_true] at h'
      exact s_icons (sndE ht a o tk h'.1.2) (sndI ht r o tk h'.2) (star_of h'.1.1)
  | .star a r => by
    rename_i X sc fb e W
    intro o tk h
    cases e with
    | nil => cases h
    | cons x t =>
      have h' : (kStar (chkE c a sc fb) x && chkI c r sc fb t) = true := h
      simp only [Bool.and_eq_true] at h'
      obtain ⟨h1, h2⟩ := h'
      cases x <;> first | (cases h1; done) | exact s_istar (sndE ht a o tk h1) (sndI ht r o tk h2)
theorem sndW (ht : inTab G c) : ∀ m : It, SW c G fld k m
  | .seq a => fun o tk h => s_seq (sndE ht a o tk h)
  | .range1 a => by
    rename_i X sc fb tg e W
    intro o tk h
    obtain ⟨x, px, y, ys, p, rfl, h1, h2, h3, h4⟩ := kCall_inv h
    simp only [Bool.and_eq_true, decide_eq_true_eq] at h1
    obtain ⟨h1, rfl⟩ := h1
    match ys, h2 with
    | [], h2 => exact s_range1 (o.gl h1) (o.g.blt _ (by decide +kernel)) (sndE ht a o tk h2) (star_of h3)
  | .range2 a b => by
    rename_i X sc fb tg e W
    intro o tk h
    obtain ⟨x, px, y, ys, p, rfl, h1, h2, h3, h4⟩ := kCall_inv h
    simp only [Bool.and_eq_true, decide_eq_true_eq] at h1
    obtain ⟨h1, rfl⟩ := h1
    match ys, h2, h4 with
    | [z], h2, h4 =>
      have h2' : (chkE c a sc fb y && chkE c b sc fb z) = true := h2
      simp only [Bool.and_eq_true] at h2'
      simp only [List.all_cons, List.all_nil, Bool.and_true] at h4
      exact s_range2 (o.gl h1) (o.g.blt _ (by decide +kernel)) (sndE ht a o tk h2'.1) (sndE ht b o tk h2'.2) (by rw [star_of h3, star_of h4]; rfl) (star_of h4)
  | .range3 a b s => fun o tk h => by cases h
  | .enum a => fun o tk h => by cases h
  | .zip a b => fun o tk h => by cases h
end
end
end DL

set_option Elab.async false
set_option linter.all false
set_option maxRecDepth 100000
set_option maxHeartbeats 8000000
namespace DL
open PySem L2
section
variable {X : Cx} {c : Cfg} {G : Nat → Option Fn} {fld : Addr → PySem.Str} {k : Nat} {W : WX} {a b : Expr} {ma mb : Ex} {pos : Pos}
/-! ### x op= e -/
def bopI : BOp → Bool
  | .add => true | .sub => true | _ => false
def rAug : BOp → R2
  | .add => fun x y H Q => rI0 (fun i j => .int (i + j)) x y H Q ∨ rExt2 x y H Q
  | _ => rI0 fun i j => .int (i - j)
theorem op_aug : ∀ op, bopI op = true → OpR X (inplaceOp (bopP op)) (rAug op)
  | .add, _ => iop_add.or iop_ext
  | .sub, _ => iop_sub
theorem aug_ok {K : PySem.W.Frag} {Z F H : Hp} {m : Mu} {op : BOp} {x y : V} {dx dy : DV} {kk : DV → Mu → Prop} {Q : VK} (w : Wf K Z F H m) (rx : RelD K F x dx) (ry : RelD K F y dy) (h : augD op dx dy m kk)
    (q : ∀ d m' v H', kk d m' → Wf K Z F H' m' → RelD K F v d → Q v H') : rAug op x y H Q := by
  unfold augD at h
  split at h
  · split at h
    · cases rx
      cases ry
      exact .inl ⟨_, _, rfl, rfl, q _ m _ H h w (.int _)⟩
    · exact h.elim
  · split at h
    · cases rx
      cases ry
      exact ⟨_, _, rfl, rfl, q _ m _ H h w (.int _)⟩
    · exact h.elim
  · obtain ⟨xs, zs, hx, hy, hl, hk⟩ := h
    cases rx
    obtain ⟨hf, hz, vs, h1, h2, h3⟩ := w.ob _ _ hx
    obtain ⟨bb, us, rfl, g1, g2, g3⟩ := w.lst ry hy
    have l1 := h2.length
    have l2 := g2.length
    refine .inr ⟨_, bb, vs, us, rfl, rfl, h1, g1, by rw [l1, l2, ← LINE_eq]; exact hl, q _ _ _ _ hk (w.set hx ⟨vs ++ us, upd_same, h2.append g2, by rw [List.length_append, l1, l2]; exact hl⟩) (.loc _)⟩
  · exact h.elim
theorem s_aug {i : Nat} {x : PySem.Str} {op : BOp} {px : Pos} (hop : bopI op = true) (hN : X.N.Nodup) (hi : X.N[i]? = some x) (hx : L2.Loc X.env.scope x) (hf : X.fn x = true ∨ X.env.scope.names.lookup x = some .local) (ha : PE X a (tL X.K G fld W ma)) :
    PS X (.AugAssign (.Name x px) (bopP op) a pos) (tLS X.K G fld W (.aug i op ma)) := by
  refine PSimp (ps_aug hN hi hx ha (op_aug op hop) hf) fun D σ H ⟨r, m, Z, F, Dd, w, sl, hq, ok⟩ => ?_
  simp only [rdS] at hq
  obtain ⟨dx, hdx, hq⟩ := hq
  obtain ⟨v, hv, rv⟩ := sl.at_ i dx hdx
  refine ⟨v, hv, ?_⟩
  refine ⟨r, m, Z, F, _, _, w, sl, hq, fun d m1 u H1 F1 q1 e1 w1 r1 => ?_, ok.xok sl⟩
  exact aug_ok w1 (rv.mono e1.sm) r1 q1 fun d m' v' H' hk w' r' => ok.nx _ m' _ H' F1 hk e1 w' ((sl.mono e1.sm).set i r')
def rGetL (K : PySem.W.Frag) : V → V → Hp → VK → Prop := fun o i H Q => ∃ p xs k v, o = .ref p ∧ i = .int k ∧ SqL K H p xs ∧ 0 ≤ k ∧ xs[k.toNat]? = some v ∧ Q v H
theorem get_list : PGet X (rGetL X.K) := by
  intro pins s σ H o i ov iv Q I ro ri h
  obtain ⟨p, xs, kk, v, rfl, rfl, hq, h0, hv, q⟩ := h
  cases ro
  obtain ⟨t, rfl⟩ := ri
  obtain ⟨its, r, pl, hz⟩ := I.list hq
  obtain ⟨u, hu, ru⟩ := r.get hv
  have hlt : kk.toNat < xs.length := (List.getElem?_eq_some_iff.mp hv).1
  have hs : xs.length ≤ 16777216 := by rw [← sizeLine_eq]; exact hz
  exact wpAny_getItem_list pl.isList h0 (by omega) (by simpa using hu) ⟨v, H, I, ru, q⟩
theorem s_saug {o i : Expr} {mo mi : Ex} {op : BOp} {sp : Pos} (hop : bopI op = true) (ho : PE X o (tL X.K G fld W mo)) (hi : PE X i (tL X.K G fld W mi)) (ha : PE X a (tL X.K G fld W ma)) (hs : notSlice i = true) :
    PS X (.AugAssign (.Subscript o i sp) (bopP op) a pos) (tLS X.K G fld W (.saug mo mi op ma)) := by
  refine PSimp (ps_augS ho hi get_list ha (op_aug op hop) set_list (by
    intro ov iv new
    cases i <;> first | (cases hs; done) | rfl)) fun D σ H ⟨r, m, Z, F, Dd, w, sl, hq, ok⟩ => ?_
  simp only [rdS] at hq
  refine ⟨r, m, Z, F, _, _, w, sl, hq, fun d m1 v H1 F1 q1 e1 w1 r1 => ?_, ok.xok sl⟩
  refine ⟨r, m1, Z, F1, _, _, w1, sl.mono e1.sm, q1, fun d2 m2 v2 H2 F2 q2 e2 w2 r2 => ?_, (ok.ext e1).xok (sl.mono e1.sm)⟩
  unfold getD at q2
  split at q2
  · obtain ⟨h0, xs, u, hx, hu, hq⟩ := q2
    obtain ⟨p, vs, rfl, hp, rs, _⟩ := w2.lst (r1.mono e2.sm) hx
    obtain ⟨y, hy, ry⟩ := rs.get hu
    cases r2
    refine ⟨p, vs, _, y, rfl, rfl, SqL.of hp, h0, hy, ?_⟩
    have e12 := e1.trans e2
    refine ⟨r, m2, Z, F2, _, _, w2, sl.mono e12.sm, hq, fun d3 m3 v3 H3 F3 q3 e3 w3 r3 => ?_, (ok.ext e12).xok (sl.mono e12.sm)⟩
    refine aug_ok w3 (ry.mono e3.sm) r3 q3 fun d m' v' H' hk w' r' => ?_
    exact setD_ok w' (r1.mono (e2.trans e3).sm) (.int _) r' hk fun m'' H'' hk' w'' => ok.nx r m'' σ H'' F3 hk' (e12.trans e3) w'' (sl.mono (e12.trans e3).sm)
  · exact q2.elim
end
/-! ### the check of statements -/
def notTup : Expr → Bool
  | .Tuple _ _ _ => false
  | _ => true
def isTupE : Expr → Bool
  | .Tuple _ _ _ => true
  | _ => false
/-- y = [..] on one line -/
def lcOk (sc : Scope) (y : PySem.Str) (py : Pos) : Expr → Bool
  | .ListComp _ _ scope ps => isLocal sc y && (py.line == ps.line) && !(scope.names.any fun (n, k) => n == y && (k == .local || k == .cell)) && (match sc.kind with | .function => true | _ => false)
  | _ => false
def kSet (sc : Scope) (lc : Bool) (f g : PEx) : List Expr → Expr → Bool
  | [tg], e => f tg && g e && (match tg with
    | .Name y py => notComp e || (lc && lcOk sc y py e)
    | .Tuple _ _ _ => notComp e && notTup e
    | _ => false)
  | _, _ => false
def kSubset (f g h : PEx) : List Expr → Expr → Bool
  | [.Subscript o i _], e => notComp e && notSlice i && f o && g i && h e
  | _, _ => false
def isLcM : Ex → Bool
  | .comp _ _ _ _ _ => true
  | .own (.comp _ _ _ _ _) => true
  | _ => false
mutual
def chkS (c : Cfg) (sc : Scope) (fb : PySem.Str → Bool) : St → Stmt → Bool
  | .set p e, st => match st with
    | .Assign tgs v _ => kSet sc (isLcM e) (chkP c sc fb p) (chkE c e sc fb) tgs v
    | _ => false
  | .par _ _ _ _, _ => false
  | .aug i op e, st => match st with
    | .AugAssign tg o v _ => bopI op && decide (o = bopP op) && chkP c sc fb (.name i) tg && chkE c e sc fb v
    | _ => false
  | .sub o i e, st => match st with
    | .Assign tgs v _ => kSubset (chkE c o sc fb) (chkE c i sc fb) (chkE c e sc fb) tgs v
    | _ => false
  | .saug o i op e, st => match st with
    | .AugAssign tg o' v _ => bopI op && decide (o' = bopP op) && kSub (chkE c o sc fb) (chkE c i sc fb) tg && chkE c e sc fb v
    | _ => false
  | .exp e, st => match st with
    | .Expr v _ => notComp v && chkE c e sc fb v
    | _ => false
  | .ret e, st => match st with
    | .Return v _ => (match v with | some v => chkE c e sc fb v | none => false)
    | _ => false
  | .retN, st => match st with
    | .Return v _ => v.isNone
    | _ => false
  | .ifs t a b, st => match st with
    | .If q x y _ => chkT c t sc fb q && chkSs c sc fb a x && chkSs c sc fb b y
    | _ => false
  | .fr p it b, st => match st with
    | .For tg iter body els _ => els.isEmpty && notSet iter && chkP c sc fb p tg && chkW c it sc fb tg iter && chkSs c sc fb b body
    | _ => false
  | .whl t b, st => match st with
    | .While q body els _ => els.isEmpty && chkT c t sc fb q && chkSs c sc fb b body
    | _ => false
  | .rse _ _, _ => false
  | .pass, st => match st with
    | .Pass _ => true
    | _ => false
  | .brk, st => match st with
    | .Break _ => true
    | _ => false
  | .cont, st => match st with
    | .Continue _ => true
    | _ => false
def chkSs (c : Cfg) (sc : Scope) (fb : PySem.Str → Bool) : Sts → List Stmt → Bool
  | .nil, st => st.isEmpty
  | .cons s t, st => match st with
    | x :: r => chkS c sc fb s x && chkSs c sc fb t r
    | [] => false
end
section
variable {c : Cfg} {G : Nat → Option Fn} {fld : Addr → PySem.Str} {k : Nat}
abbrev SS (c : Cfg) (G : Nat → Option Fn) (fld : Addr → PySem.Str) (k : Nat) (m : St) : Prop := ∀ (X : Cx) (sc : Scope) (fb : PySem.Str → Bool) (e : Stmt) (W : WX), Ok X c G fld k sc fb → Takes X W → PassesOwn (model X.prog X.w) X.A X.env X.xe → chkS c sc fb m e = true → PS X e (tLS X.K G fld W m)
abbrev SSs (c : Cfg) (G : Nat → Option Fn) (fld : Addr → PySem.Str) (k : Nat) (m : Sts) : Prop := ∀ (X : Cx) (sc : Scope) (fb : PySem.Str → Bool) (e : List Stmt) (W : WX), Ok X c G fld k sc fb → Takes X W → PassesOwn (model X.prog X.w) X.A X.env X.xe → chkSs c sc fb m e = true → PSs X e (tLSs X.K G fld W m)
/-- an assigned comprehension: any reading of the comprehension that the lifted one gives -/
theorem comp_asg {X : Cx} {sc : Scope} {fb : PySem.Str → Bool} {W : WX} {i : Nat} {y : PySem.Str} {py pos : Pos} {e : Expr} {m : Ex} (ht : inTab G c) (o : Ok X c G fld k sc fb) (tk : Takes X W) (hi : c.N[i]? = some y) (hl : lcOk sc y py e = true) (hm : isLcM m = true) (hc : chkE c m sc fb e = true) :
    ∃ t, PS X (.Assign [.Name y py] e pos) (tAsg t (gName i)) ∧ ∀ σ H Q, tL X.K G fld W m σ H Q → t σ H Q := by
  cases e <;> first | (cases hl; done) | skip
  rename_i elt gens scope ps
  simp only [lcOk, Bool.and_eq_true, Bool.not_eq_true'] at hl
  obtain ⟨⟨⟨h1, h2⟩, h3⟩, h4⟩ := hl
  have hk : X.env.scope.kind = .function := by
    rw [o.sc]
    split at h4
    · assumption
    · cases h4
  -- the comprehension itself
  have key : ∀ m' : Ex, isNew m' = true → chkE c m' sc fb (.ListComp elt gens scope ps) = true → ∃ t, PS X (.Assign [.Name y py] (.ListComp elt gens scope ps) pos) (tAsg t (gName i)) ∧ ∀ σ H Q, tN X.K G fld W m' σ H Q → t σ H Q := by
    intro m' hm hc
    cases m' <;> first | (cases hm; done) | skip
    · obtain ⟨_, _, z, _⟩ := kLst_inv hc
      cases z
    · rename_i bb es
      obtain ⟨_, _, _, _, _, z, _⟩ := kCall_inv hc
      cases z
    · rename_i p vs it t a
      obtain ⟨elt', tg, iter, ifs, scope', ps', e0, g1, g2, g3, g4, g5, g6, g7, g8⟩ := kComp_inv hc
      cases e0
      have hT : ∀ X' : Cx, X'.K = X.K → Ok X' c G fld k (relS scope sc) (fun x => scope.names.lookup x == some .cell) → PTs X' ifs (tLT X'.K G fld (fun _ _ _ _ => False) t) := fun X' eK o' => by
        simp only [Bool.or_eq_true, Bool.and_eq_true] at g7
        rcases g7 with ⟨g7, g9⟩ | g7
        · cases ifs with
          | cons _ _ => cases g9
          | nil =>
            cases t <;> first | (cases g7; done) | skip
            exact ⟨fun pins s σ H Q I hw => pts_nil.run pins s σ H Q I (by
              obtain ⟨r, m, Z, F, Qd, Ed, w, sl, hq, post, xp⟩ := hw
              exact post true m true H F hq (Ext.refl Z F) w rfl)⟩
        · match ifs, g7 with
          | [q], g7 => exact pts_one (sndT ht t o' takes0 g7)
      have hE : ∀ X' : Cx, X'.K = X.K → Ok X' c G fld k (relS scope sc) (fun x => scope.names.lookup x == some .cell) → PE X' elt (tL X'.K G fld (fun _ _ _ _ => False) a) := fun X' eK o' => sndE ht a o' takes0 g8
      have blk : BlkOk X.N X.env.scope scope (ownOf c.N vs) := by rw [o.g.N, o.sc]; exact blkOk_by g2
      have pg := fun (s : Shared) (H : Hp) (C : Addr) (cl : List (PySem.Str × Addr)) (fp : List Addr) => snd_pat (o.blk s H scope C cl fp) p g6
      have pt := fun (s : Shared) (H : Hp) (C : Addr) (cl : List (PySem.Str × Addr)) (fp : List Addr) => hT (X.blk s H scope (compEnvC scope cl C X.env) fp) rfl (o.blk s H scope C cl fp)
      have pe := fun (s : Shared) (H : Hp) (C : Addr) (cl : List (PySem.Str × Addr)) (fp : List Addr) => hE (X.blk s H scope (compEnvC scope cl C X.env) fp) rfl (o.blk s H scope C cl fp)
      have hW := sndW ht it (tg := tg) o tk g5
      refine ⟨_, ps_setLc (g := gP X.K p) (tt := tLT X.K G fld (fun _ _ _ _ => False) t) (te := tL X.K G fld (fun _ _ _ _ => False) a) o.g.calm o.g.nd (o.at_ hi) (o.isLocal h1) (sw_true hk (o.isLocal h1) h2 h3) hW blk pg pt pe (folded_of g1), ?_⟩
      exact n_comp (W := W) o.g.calm o.g.nd hW blk g3 (fun i hi => by simpa using List.all_eq_true.mp g4 i hi) pg pt pe (folded_of g1)
  have frozen : ∀ (m' : Ex) σ H Q, tL X.K G fld W m' σ H Q → tN X.K G fld W m' σ H Q := fun m' σ H Q ⟨r, m, Z, F, Qd, Ed, w, sl, hq, post, xp⟩ => ⟨r, m, Z, F, Qd, Ed, w, sl, hq, fun d m' v H' F' q e' w' fr => by
    obtain ⟨p, vs, ds, rfl, rfl, hp, hf, hz, hm, rs, hl⟩ := fr
    obtain ⟨w2, e2⟩ := w'.freeze hp hf hz hm
    exact post _ m' _ H' _ q (e'.trans e2) w2 (.lst upd_same (rs.mono e2.sm) hl), xp⟩
  cases m <;> first | (cases hm; done) | skip
  · obtain ⟨t, h1, h2⟩ := key _ rfl hc
    exact ⟨t, h1, fun σ H Q h => h2 σ H Q (frozen _ σ H Q h)⟩
  · rename_i m'
    cases m' <;> first | (cases hm; done) | skip
    have hc' : (true && chkE c (.comp _ _ _ _ _) sc fb (.ListComp elt gens scope ps)) = true := hc
    rw [Bool.true_and] at hc'
    obtain ⟨t, h1, h2⟩ := key _ rfl hc'
    refine ⟨t, h1, fun σ H Q ⟨r, m, Z, F, Qd, Ed, w, sl, hq, post, xp⟩ => h2 σ H Q ?_⟩
    rw [rdE] at hq
    refine ⟨r, m, Z, F, _, Ed, w, sl, hq, fun d m' v H' F' q e' w' fr => ?_, xp⟩
    obtain ⟨p, vs, ds, rfl, rfl, hp, hf, hz, hm, rs, hl⟩ := fr
    have q2 := q p hm
    refine post _ _ _ H' F' q2 e' ⟨w'.sf, w'.sz, fun b u e => ?_⟩ (.loc p)
    unfold Mu.put at e
    by_cases hb : b = p
    · subst hb
      rw [if_pos rfl] at e
      cases e
      exact ⟨hf, hz, vs, hp, rs, hl⟩
    · rw [if_neg hb] at e
      exact w'.ob b u e
theorem swapsSole_of {e t : Expr} {l : Nat} {env : PySem.Env} (h : notComp e = true) : swapsWithSole [t] e l env = pure false := swaps_of h
theorem y_set (ht : inTab G c) {p : Pat} {m : Ex} : SS c G fld k (.set p m) := fun X sc fb e W o tk hp h => by
  cases e <;> first | (cases h; done) | skip
  rename_i tgs v pos
  have h' : kSet sc (isLcM m) (chkP c sc fb p) (chkE c m sc fb) tgs v = true := h
  match tgs, h' with
  | [tg], h' =>
    simp only [kSet, Bool.and_eq_true] at h'
    obtain ⟨⟨h1, h2⟩, h3⟩ := h'
    have pe : PE X v (tL X.K G fld W m) := sndE ht m o tk h2
    cases tg <;> first | (cases h3; done) | skip
    · rename_i y py
      cases p with
      | name i =>
        have h1' : (decide (c.N[i]? = some y) && loc sc y && (fb y || isLocal sc y)) = true := h1
        simp only [Bool.and_eq_true, decide_eq_true_eq, Bool.or_eq_true] at h1' h3
        obtain ⟨⟨g1, g2⟩, g3⟩ := h1'
        have hf : X.fn y = true ∨ X.env.scope.names.lookup y = some .local := by
          rcases g3 with z | z
          · exact .inl (o.fb _ z)
          · exact .inr (o.isLocal z)
        rcases h3 with h3 | ⟨h4, h3⟩
        · exact s_setG (pp := .name i) (ps_set o.g.nd (o.at_ g1) (o.loc g2) pe (swaps_of h3) hf) fun σ H Q q => q
        · obtain ⟨t, z1, z2⟩ := comp_asg (pos := pos) ht o tk g1 h3 h4 h2
          exact s_setG (pp := .name i) z1 z2
      | pair a b => cases h1
    · -- a, b = e
      simp only [Bool.and_eq_true] at h3
      refine s_setG (ps_asg pe (snd_pat o p h1) (swapsSole_of h3.1) ?_ ?_) fun σ H Q q => q
      · cases v <;> first | (cases h3.2; done) | rfl
      · rfl
theorem y_aug (ht : inTab G c) {i : Nat} {op : BOp} {m : Ex} : SS c G fld k (.aug i op m) := fun X sc fb e W o tk hp h => by
  cases e <;> first | (cases h; done) | skip
  rename_i tg o' v pos
  have h' : (bopI op && decide (o' = bopP op) && chkP c sc fb (.name i) tg && chkE c m sc fb v) = true := h
  simp only [Bool.and_eq_true, decide_eq_true_eq] at h'
  obtain ⟨⟨⟨h1, rfl⟩, h3⟩, h4⟩ := h'
  cases tg <;> first | (cases h3; done) | skip
  rename_i y py
  have h1' : (decide (c.N[i]? = some y) && loc sc y && (fb y || isLocal sc y)) = true := h3
  simp only [Bool.and_eq_true, decide_eq_true_eq, Bool.or_eq_true] at h1'
  obtain ⟨⟨g1, g2⟩, g3⟩ := h1'
  have hf : X.fn y = true ∨ X.env.scope.names.lookup y = some .local := by
    rcases g3 with z | z
    · exact .inl (o.fb _ z)
    · exact .inr (o.isLocal z)
  exact s_aug h1 o.g.nd (o.at_ g1) (o.loc g2) hf (sndE ht m o tk h4)
theorem y_sub (ht : inTab G c) {mo mi m : Ex} : SS c G fld k (.sub mo mi m) := fun X sc fb e W o tk hp h => by
  cases e <;> first | (cases h; done) | skip
  rename_i tgs v pos
  have h' : kSubset (chkE c mo sc fb) (chkE c mi sc fb) (chkE c m sc fb) tgs v = true := h
  match tgs, h' with
  | [.Subscript ob i sp], h' =>
    simp only [kSubset, Bool.and_eq_true] at h'
    obtain ⟨⟨⟨⟨h1, h2⟩, h3⟩, h4⟩, h5⟩ := h'
    refine s_subset (ps_asg (sndE ht m o tk h5) (pg_sub (sndE ht mo o tk h3) (sndE ht mi o tk h4) set_list ?_) (swapsSole_of h1) ?_ ?_)
    · intro v
      cases i <;> first | (cases h2; done) | rfl
    · cases v <;> rfl
    · rfl
theorem y_saug (ht : inTab G c) {mo mi m : Ex} {op : BOp} : SS c G fld k (.saug mo mi op m) := fun X sc fb e W o tk hp h => by
  cases e <;> first | (cases h; done) | skip
  rename_i tg o' v pos
  have h' : (bopI op && decide (o' = bopP op) && kSub (chkE c mo sc fb) (chkE c mi sc fb) tg && chkE c m sc fb v) = true := h
  simp only [Bool.and_eq_true, decide_eq_true_eq] at h'
  obtain ⟨⟨⟨h1, rfl⟩, h3⟩, h4⟩ := h'
  obtain ⟨x, y, p, rfl, g0, g1, g2⟩ := kSub_inv h3
  exact s_saug h1 (sndE ht mo o tk g1) (sndE ht mi o tk g2) (sndE ht m o tk h4) g0
mutual
theorem sndS (ht : inTab G c) : ∀ m : St, SS c G fld k m
  | .set p e => y_set ht
  | .par _ _ _ _ => fun X sc fb e W o tk hp h => by cases h
  | .aug i op e => y_aug ht
  | .sub o i e => y_sub ht
  | .saug o i op e => y_saug ht
  | .exp m => fun X sc fb e W o tk hp h => by
    cases e <;> first | (cases h; done) | skip
    rename_i v pos
    have h' : (notComp v && chkE c m sc fb v) = true := h
    simp only [Bool.and_eq_true] at h'
    exact s_exp (ps_expr (sndE ht m o tk h'.2) (swaps_of h'.1))
  | .ret m => fun X sc fb e W o tk hp h => by
    cases e <;> first | (cases h; done) | skip
    rename_i v pos
    cases v with
    | none => cases h
    | some v => exact s_ret (sndE ht m o tk h)
  | .retN => fun X sc fb e W o tk hp h => by
    cases e <;> first | (cases h; done) | skip
    rename_i v pos
    cases v with
    | some _ => cases h
    | none => exact s_retN
  | .ifs t a b => fun X sc fb e W o tk hp h => by
    cases e <;> first | (cases h; done) | skip
    rename_i q x y pos
    have h' : (chkT c t sc fb q && chkSs c sc fb a x && chkSs c sc fb b y) = true := h
    simp only [Bool.and_eq_true] at h'
    exact s_ifs (sndT ht t o tk h'.1.1) (sndSs ht a X sc fb x W o tk hp h'.1.2) (sndSs ht b X sc fb y W o tk hp h'.2)
  | .fr p it b => fun X sc fb e W o tk hp h => by
    cases e <;> first | (cases h; done) | skip
    rename_i tg iter body els pos
    have h' : (els.isEmpty && notSet iter && chkP c sc fb p tg && chkW c it sc fb tg iter && chkSs c sc fb b body) = true := h
    simp only [Bool.and_eq_true] at h'
    obtain ⟨⟨⟨⟨h1, h2⟩, h3⟩, h4⟩, h5⟩ := h'
    cases els with
    | cons _ _ => cases h1
    | nil => exact s_for hp o.g.calm (sndW ht it o tk h4) (snd_pat o p h3) (sndSs ht b X sc fb body W o tk hp h5) (folded_of h2)
  | .whl t b => fun X sc fb e W o tk hp h => by
    cases e <;> first | (cases h; done) | skip
    rename_i q body els pos
    have h' : (els.isEmpty && chkT c t sc fb q && chkSs c sc fb b body) = true := h
    simp only [Bool.and_eq_true] at h'
    obtain ⟨⟨h1, h2⟩, h3⟩ := h'
    cases els with
    | cons _ _ => cases h1
    | nil => exact s_whl hp (sndT ht t o tk h2) (sndSs ht b X sc fb body W o tk hp h3)
  | .rse _ _ => fun X sc fb e W o tk hp h => by cases h
  | .pass => fun X sc fb e W o tk hp h => by
    cases e <;> first | (cases h; done) | exact s_pass
  | .brk => fun X sc fb e W o tk hp h => by
    cases e <;> first | (cases h; done) | exact s_brk
  | .cont => fun X sc fb e W o tk hp h => by
    cases e <;> first | (cases h; done) | exact s_cont
theorem sndSs (ht : inTab G c) : ∀ m : Sts, SSs c G fld k m
  | .nil => fun X sc fb e W o tk hp h => by
    cases e with
    | nil => exact s_nil
    | cons _ _ => cases h
  | .cons s t => fun X sc fb e W o tk hp h => by
    cases e with
    | nil => cases h
    | cons x r =>
      have h' : (chkS c sc fb s x && chkSs c sc fb t r) = true := h
      simp only [Bool.and_eq_true] at h'
      exact s_cons (sndS ht s X sc fb x W o tk hp h'.1) (sndSs ht t X sc fb r W o tk hp h'.2)
end
/-! ### a def -/
/-- one def in the table, whatever runs around -/
structure FnT (P : Program) (w : World) (K : PySem.W.Frag) (mg : PySem.Str → Option Value) (base : Heap) (fld : Addr → PySem.Str) (k : Nat) (x : PySem.Str × List PySem.Str) (f : Fn) : Prop where
  ex : FnEx P w K mg base fld k x f
/-- what a def's body may lean on -/
structure Tab (P : Program) (w : World) (K : PySem.W.Frag) (mg : PySem.Str → Option Value) (base : Heap) (fld : Addr → PySem.Str) (k : Nat) (fns : List (PySem.Str × List PySem.Str)) (gls : List (PySem.Str × DV)) (G : Nat → Option Fn) : Prop where
  all : ∀ (f : Nat) (x : PySem.Str × List PySem.Str), fns[f]? = some x → ∃ g, G f = some g ∧ FnT P w K mg base fld k x g
  blt : ∀ x ∈ bltNames, mg x = none
  gls : ∀ x d, gls.lookup x = some d → ∃ v u, mg x = some u ∧ RelV v u ∧ ∀ F, RelD K F v d
theorem slots_start {K : PySem.W.Frag} {F : Hp} {N : List PySem.Str} {vs : List V} {ds : List DV} (r : RelDs K F vs ds) : Slots K F (L2.start N vs) (ds.map some ++ List.replicate (N.length - ds.length) none) := by
  have hl := r.length
  refine ⟨by unfold L2.start; simp [hl], fun i d h => ?_⟩
  by_cases hi : i < ds.length
  · rw [List.getElem?_append_left (by simpa using hi), List.getElem?_map] at h
    obtain ⟨x, hx, e⟩ := Option.map_eq_some_iff.mp h
    cases e
    obtain ⟨y, hy, ry⟩ := r.get hx
    exact ⟨y, by unfold L2.start; rw [List.getElem?_append_left (by simpa [hl] using hi), List.getElem?_map, hy]; rfl, ry⟩
  · rw [List.getElem?_append_right (by simpa using hi)] at h
    rw [List.getElem?_replicate] at h
    split at h <;> cases h
section
variable {P : Program} {w : World} {K : PySem.W.Frag} {mg : PySem.Str → Option Value} {base : Heap} {x qual : PySem.Str} {st : Stmt} {f : Addr} {fd : FuncData} {N ps : List PySem.Str} {fns : List (PySem.Str × List PySem.Str)} {gls : List (PySem.Str × DV)} {body : Sts}
theorem fn_pss (F : Fun K x qual st f fd) (S : FnScope N ps (defScope st)) (T : Tab P w K mg base fld k fns gls G) (hc : chkSs ⟨N, fns, gls⟩ (defScope st) (fun _ => true) body (defBody st) = true)
    (cdv : Value) (A : Around) (outer : List PySem.Env) (s : Shared) (H : Hp) (E : XK) (hr : Room k (A.deeper (PyProof.Rows.envOfC qual (defScope st) s.heap.objs.size f cdv))) :
    PSs (cxOf (L2.CX P w) P w K mg base N qual (defScope st) f cdv A outer s H E) (defBody st) (tLSs K G fld (fun cls d _ H' => E cls d H') body) := by
  have ht : inTab G ⟨N, fns, gls⟩ := fun f x h => let ⟨g, h1, _⟩ := T.all f x h; ⟨g, h1⟩
  have o : Ok (cxOf (L2.CX P w) P w K mg base N qual (defScope st) f cdv A outer s H E) ⟨N, fns, gls⟩ G fld k (defScope st) (fun _ => true) :=
    ⟨⟨rfl, S.nd, rfl, hr, fun f x g h1 h2 => by
      obtain ⟨g', h3, h4⟩ := T.all f x h1
      rw [h2] at h3
      cases h3
      exact ⟨h4.ex⟩, T.blt⟩, rfl, fun _ _ => rfl, T.gls⟩
  exact sndSs ht body _ _ _ _ _ o (takes_of rfl rfl rfl rfl) (passes_of rfl) hc
theorem fn_pure (F : Fun K x qual st f fd) (S : FnScope N ps (defScope st)) (T : Tab P w K mg base fld k fns gls G) (hc : chkSs ⟨N, fns, gls⟩ (defScope st) (fun _ => true) body (defBody st) = true) {s : PSp} (hl : ∀ ds Qd Ed, s ds Qd Ed → ds.length = ps.length)
    (h : ∀ ds Qd Ed, s ds Qd Ed → rdF G N.length body ds Mu.nil (fun d _ => Qd d) (fun x _ => Ed x)) : FnOk P w K mg base (L2.CX P w) (k + 1) f fd ps (spP K fld s) := by
  refine F.okX S (fun vs H Q E hs => ?_) (fun cdv A outer sh H vs Q E hr hs => ⟨_, fn_pss F S T hc cdv A outer sh H E hr, ?_⟩)
  · obtain ⟨ds, F, Qd, Ed, _, r, q, _⟩ := hs
    rw [r.length]
    exact hl ds Qd Ed q
  · obtain ⟨ds, F, Qd, Ed, sb, r, q, p1, p2⟩ := hs
    refine ⟨_, Mu.nil, H, F, _, ⟨sb, fun _ _ h => h, fun p o e => by cases e⟩, slots_start r, h ds Qd Ed q, ?_⟩
    refine ⟨fun r' m' σ' H' F' hq e' w' s' => p1 .non .non H' F' hq e' w'.sf w'.sz .non, fun d m' v H' F' hq e' w' rd => p1 d v H' F' hq e' w'.sf w'.sz rd, fun _ _ _ _ _ h => h.elim, fun _ _ _ _ _ h => h.elim, fun x r' m' σ' H' F' cls dd hq e' w' s' er => p2 x H' F' cls dd hq e' w'.sf w'.sz ?_⟩
    obtain ⟨y1, dx, v, y2, y3, y4, y5, y6, y7⟩ := er
    exact ⟨y1, dx, v, y2, y3, y4, y5, rfl, y7⟩
theorem fn_gen (F : Fun K x qual st f fd) (S : FnScope N ps (defScope st)) (T : Tab P w K mg base fld k fns gls G) (hc : chkSs ⟨N, fns, gls⟩ (defScope st) (fun _ => true) body (defBody st) = true) {s : FSp} (hl : ∀ ds m Qd Ed, s ds m Qd Ed → ds.length = ps.length)
    (h : ∀ ds m Qd Ed, s ds m Qd Ed → rdF G N.length body ds m Qd Ed) : FnOk P w K mg base (L2.CX P w) (k + 1) f fd ps (spG K fld s) := by
  refine F.okX S (fun vs H Q E hs => ?_) (fun cdv A outer sh H vs Q E hr hs => ⟨_, fn_pss F S T hc cdv A outer sh H E hr, ?_⟩)
  · obtain ⟨ds, m, Z, F, Qd, Ed, _, r, q, _⟩ := hs
    rw [r.length]
    exact hl ds m Qd Ed q
  · obtain ⟨ds, m, Z, F, Qd, Ed, w', r, q, p1, p2⟩ := hs
    refine ⟨_, m, Z, F, _, w', slots_start r, h ds m Qd Ed q, ?_⟩
    exact ⟨fun r' m' σ' H' F' hq e' w' s' => p1 .non m' .non H' F' hq e' w' .non, fun d m' v H' F' hq e' w' rd => p1 d m' v H' F' hq e' w' rd, fun _ _ _ _ _ h => h.elim, fun _ _ _ _ _ h => h.elim, fun x r' m' σ' H' F' cls dd hq e' w' s' er => p2 x m' H' F' cls dd hq e' w' er⟩
end
end
end DL

set_option Elab.async false
set_option linter.all false
set_option maxRecDepth 100000
set_option maxHeartbeats 2000000
/-! DLE: a law's end over the small language -/
namespace DL
open PySem PySem.Spec PyProof.Rows L2
theorem fun_ofD {K : PySem.W.Frag} {x qual : PySem.Str} {st : Stmt} {kws : List (PySem.Str × V)} {f : Addr} {fd : FuncData} (F : FunD K x qual (defArgs st) (defBody st) (defScope st) [] kws f fd) : Fun K x qual st f fd := by
  obtain ⟨oc, od, dV, kV, doc, pm, an, cdv, ct, osl, e, lk, hcd, hD, hK⟩ := F.ex
  rcases hD with ⟨_, rfl⟩ | ⟨h, _⟩
  · exact ⟨⟨oc, od, kV, doc, pm, an, cdv, ct, osl, e, lk, hcd⟩, F.kp⟩
  · exact absurd rfl h
/-- one def of the table, called by place -/
theorem fnT_pos {P : Program} {w : World} {K : PySem.W.Frag} {mg : PySem.Str → Option Value} {base : Heap} {fld : Addr → PySem.Str} {j k : Nat} {x : PySem.Str} {a : Addr} {fd : FuncData} {ps : List PySem.Str} {f : Fn}
    (hm : mg x = some (.ref a)) (hk : PySem.W.keepIn K (.ref a) = true) (F : FnOk P w K mg base (L2.CX P w) j a fd ps (spOf K fld f)) (h : j ≤ k) (hb : Binds K fd ps []) : FnT P w K mg base fld k (x, []) f :=
  ⟨a, fd, ps, _, hm, hk, F.mono h, .inl ⟨rfl, rfl, hb⟩⟩
theorem relDs_len {K : PySem.W.Frag} {F : Hp} {vs : List V} {ds : List DV} (r : RelDs K F vs ds) : vs.length = ds.length := r.length
/-- one def of the table, every parameter by its keyword, in the def's order -/
theorem fnT_kw {P : Program} {w : World} {K : PySem.W.Frag} {mg : PySem.Str → Option Value} {base : Heap} {fld : Addr → PySem.Str} {j k : Nat} {x : PySem.Str} {a : Addr} {fd : FuncData} {ps : List PySem.Str} {s : PSp} (h0 : ps ≠ [])
    (hm : mg x = some (.ref a)) (hk : PySem.W.keepIn K (.ref a) = true) (F : FnOk P w K mg base (L2.CX P w) j a fd ps (spP K fld s)) (h : j ≤ k) (hl : ∀ ds Q E, s ds Q E → ds.length = ps.length)
    (hb : ∀ (s : Shared) (ws : List Value), ws.length = ps.length → BindsTo s fd ⟨[], ps.zip ws⟩ (ps.zip ws)) : FnT P w K mg base fld k (x, ps) (.pure s) := by
  refine ⟨a, fd, ps, _, hm, hk, F.mono h, .inr ⟨h0, fun _ ws => ws, fun _ zs => zs, ⟨fun s us ws _ hu hw => ?_, fun _ r => r⟩, fun vs H Q E hs => ⟨?_, hs⟩⟩⟩
  · have e : us = [] := List.length_eq_zero_iff.mp hu
    subst e
    exact hb s ws hw
  · obtain ⟨ds, F, Qd, Ed, _, r, q, _⟩ := hs
    rw [relDs_len r]
    exact hl ds Qd Ed q
theorem walk_D {l : PySem.W.OpenLaw} {n k : Nat} {q : Program} {loose : List PySem.Str} {XP : (PySem.Str → Option Value) → Heap → Prop} {YP : World → Heap → Prop} {d : DefRec} {x : PySem.Str} {s : FSp}
    (hn : l.most = some n) (hn2 : n ≤ sizeLine) (hdf : d.params.defaults = []) (hr : Room k callerA) (hL : n ≤ LINE)
    (F : ∀ (w : World) (mg : PySem.Str → Option Value) (fa : Addr) (h : Heap), YP w h → h.Ns mainGlobals mg → mg d.name = some (.ref fa) →
      ∃ (K : PySem.W.Frag) (fd : FuncData) (fld : Addr → PySem.Str), K.In h ∧ (∀ (s : Shared) (u : Value), BindsTo s fd ⟨[u], []⟩ [(x, u)]) ∧
        ∀ base : Heap, K.In base → base.Ns mainGlobals mg → FnOk l.prog w K mg base (L2.CX l.prog w) k fa fd [x] (spG K fld s))
    (hs : ∀ ns : List Int, ns.length ≤ n → s [.scr ns] Mu.nil (fun d _ => d = .bl true) (fun _ _ => False)) :
    PySem.W.WalkO q loose XP YP l.row.toRowW d [] (fun f vs => PySem.call f vs) := by
  refine Att.attach_call hn hdf fun w s₀ s₁ mg mb fa o pm cd doc a vs ns G Y ho hd hcd hmg hobj hints hlen hg => ?_
  obtain ⟨K, fd, fld, KX, hb, hF⟩ := F w mg fa _ Y G.T.g hmg
  refine law_call KX G.T.g G.T.b G.T.builtins G.T.nolimit hg hobj hints (Nat.le_trans hlen hn2) hr hF hb (fun H hO hS => ?_) fun H e s' h => ?_
  · refine ⟨[.scr ns], Mu.nil, H, H, (fun d _ => d = .bl true), (fun _ _ => False), ⟨fun _ _ h => h, fun _ _ h => h, fun p o e => by cases e⟩, .cons (.scr hS (Nat.le_trans hlen hL)) .nil, hs ns hlen, ?_, fun _ _ _ _ _ _ h => h.elim⟩
    rintro d m' v H' F' rfl _ _ r
    cases r
    rfl
  · obtain ⟨_, _, _, _, _, _, _, _, _, _, _, _, h⟩ := h
    exact h
/-- the names that stay free, by the head's facts -/
theorem blt_free {K : PySem.W.Frag} {h : Heap} {mg : PySem.Str → Option Value} (X : K.In h) (G : h.Ns mainGlobals mg) (c : ∀ x ∈ bltNames, (He.Fa.free x).ok K = true) : ∀ x ∈ bltNames, mg x = none := fun x hx => He.free_ok X G (c x hx)
end DL

set_option linter.all false
namespace DL
/-! DLL: lemmas for readings of the small language -/
section
variable {m : Mu}
theorem look_non : look m .non = .non := rfl
theorem look_bl {b : Bool} : look m (.bl b) = .bl b := rfl
theorem look_int {b : Int} : look m (.int b) = .int b := rfl
theorem look_str {b : S} : look m (.str b) = .str b := rfl
theorem look_tup {b : List DV} : look m (.tup b) = .tup b := rfl
theorem look_lst {b : List DV} : look m (.lst b) = .lst b := rfl
theorem look_dic {b : List (DK × DV)} : look m (.dic b) = .dic b := rfl
theorem look_dit {b : List (List DK × DV)} : look m (.dit b) = .dit b := rfl
theorem look_ins {c : Nat} {b : List (S × DV)} : look m (.ins c b) = .ins c b := rfl
theorem look_scr {b : List Int} : look m (.scr b) = .scr b := rfl
theorem look_loc {a : Nat} {xs : List DV} (h : m a = some (.lst xs)) : look m (.loc a) = .lst xs := by
  unfold look
  simp only [h]
end
theorem put_same {m : Mu} {a : Nat} {o : DO} : (m.put a o) a = some o := by unfold Mu.put; rw [if_pos rfl]
theorem put_ne {m : Mu} {a b : Nat} {o : DO} (h : b ≠ a) : (m.put a o) b = m b := by unfold Mu.put; rw [if_neg h]
theorem ne_of_some {m : Mu} {a b : Nat} {o : DO} (h : m a = some o) (h' : m b = none) : a ≠ b := by
  intro e
  subst e
  rw [h] at h'
  cases h'
theorem at0 {α : Type} {c : α} {r : List α} : atD (c :: r) 0 = some c := by
  unfold atD idx
  rw [if_pos (Int.le_refl 0), if_pos (by simp)]
  rfl
theorem at1 {α : Type} {c d : α} {r : List α} : atD (c :: d :: r) 1 = some d := by
  unfold atD idx
  rw [if_pos (by decide), if_pos (by simp only [List.length_cons]; omega)]
  rfl
theorem at2 {α : Type} {c d e : α} {r : List α} : atD (c :: d :: e :: r) 2 = some e := by
  unfold atD idx
  rw [if_pos (by decide), if_pos (by simp only [List.length_cons]; omega)]
  rfl
theorem atD_some {α : Type} {xs : List α} {i : Int} (h0 : 0 ≤ i) (h1 : i < xs.length) : atD xs i = some (xs[i.toNat]'(by omega)) := by
  unfold atD idx
  rw [if_pos h0, if_pos h1]
  simp only [Option.bind_some]
  exact List.getElem?_eq_getElem _
theorem at_in {α : Type} {xs : List α} {i : Int} (h0 : 0 ≤ i) (h1 : i < xs.length) : ∃ v, atD xs i = some v ∧ v ∈ xs := ⟨_, atD_some h0 h1, List.getElem_mem _⟩
theorem idx_some {n : Nat} {i : Int} (h0 : 0 ≤ i) (h1 : i < n) : idx n i = some i.toNat := by
  unfold idx
  rw [if_pos h0, if_pos h1]
/-! the operations, form by form -/
section Ops
namespace O
theorem binAI {i j : Int} {k : DV → Prop} : binD .add (.int i) (.int j) k = (k (.int (i + j))) := rfl
theorem binAS {s t : S} {k : DV → Prop} : binD .add (.str s) (.str t) k = (s.length + t.length ≤ LINE ∧ k (.str (s ++ t))) := rfl
theorem binAT {s t : List DV} {k : DV → Prop} : binD .add (.tup s) (.tup t) k = (s.length + t.length ≤ LINE ∧ k (.tup (s ++ t))) := rfl
theorem binAL {s t : List DV} {k : DV → Prop} : binD .add (.lst s) (.lst t) k = (s.length + t.length ≤ LINE ∧ k (.lst (s ++ t))) := rfl
theorem binS {i j : Int} {k : DV → Prop} : binD .sub (.int i) (.int j) k = (k (.int (i - j))) := rfl
theorem binM {i j : Int} {k : DV → Prop} : binD .mul (.int i) (.int j) k = (mulOk i j ∧ k (.int (i * j))) := rfl
theorem binML {s : List DV} {j : Int} {k : DV → Prop} : binD .mul (.lst s) (.int j) k = ((0 ≤ j ∧ j < 1000 ∧ s.length ≤ 1000) ∧ k (.lst (List.replicate j.toNat s).flatten)) := rfl
theorem binF {i j : Int} {k : DV → Prop} : binD .fdiv (.int i) (.int j) k = (divOk j ∧ k (.int (i.fdiv j))) := rfl
theorem binR {i j : Int} {k : DV → Prop} : binD .mod (.int i) (.int j) k = (j ≠ 0 ∧ k (.int (i.fmod j))) := rfl
theorem binP {i j : Int} {k : DV → Prop} : binD .pow (.int i) (.int j) k = ((0 ≤ j ∧ j ≤ 1000 ∧ i.natAbs < 2 ^ 64) ∧ k (.int (i ^ j.toNat))) := rfl
theorem cmpEq {x y : DV} {k : DV → Prop} : cmpD .eq x y k = ((plain x = true ∧ plain y = true ∧ depth x ≤ 60 ∧ depth y ≤ 60) ∧ k (.bl (eqv x y))) := rfl
theorem cmpNe {x y : DV} {k : DV → Prop} : cmpD .ne x y k = ((plain x = true ∧ plain y = true ∧ depth x ≤ 60 ∧ depth y ≤ 60) ∧ k (.bl (!eqv x y))) := rfl
theorem cmpIsN {x y : DV} {k : DV → Prop} : cmpD .isN x y k = (isNonD y = true ∧ k (.bl (isNonD x))) := rfl
theorem cmpNotN {x y : DV} {k : DV → Prop} : cmpD .notN x y k = (isNonD y = true ∧ k (.bl (!isNonD x))) := rfl
theorem cmpLt {i j : Int} {k : DV → Prop} : cmpD .lt (.int i) (.int j) k = (k (.bl (decide (i < j)))) := rfl
theorem cmpLtS {i j : S} {k : DV → Prop} : cmpD .lt (.str i) (.str j) k = (k (.bl (decide (i < j)))) := rfl
theorem cmpLe {i j : Int} {k : DV → Prop} : cmpD .le (.int i) (.int j) k = (k (.bl (decide (i ≤ j)))) := rfl
theorem cmpGt {i j : Int} {k : DV → Prop} : cmpD .gt (.int i) (.int j) k = (k (.bl (decide (j < i)))) := rfl
theorem cmpGe {i j : Int} {k : DV → Prop} : cmpD .ge (.int i) (.int j) k = (k (.bl (decide (j ≤ i)))) := rfl
theorem cmpInL {x : DV} {ys : List DV} {k : DV → Prop} : cmpD .isin x (.lst ys) k = ((plain x = true ∧ plains ys = true ∧ depth x ≤ 60 ∧ depths ys ≤ 59) ∧ k (.bl (ys.any fun z => eqv z x))) := rfl
theorem cmpInT {x : DV} {ys : List DV} {k : DV → Prop} : cmpD .isin x (.tup ys) k = ((plain x = true ∧ plains ys = true ∧ depth x ≤ 60 ∧ depths ys ≤ 59) ∧ k (.bl (ys.any fun z => eqv z x))) := rfl
theorem cmpInS {c : Nat} {z : S} {k : DV → Prop} : cmpD .isin (.str [c]) (.str z) k = (k (.bl (decide (c ∈ z)))) := rfl
theorem cmpNiL {x : DV} {ys : List DV} {k : DV → Prop} : cmpD .notin x (.lst ys) k = ((plain x = true ∧ plains ys = true ∧ depth x ≤ 60 ∧ depths ys ≤ 59) ∧ k (.bl (!ys.any fun z => eqv z x))) := rfl
theorem cmpNiT {x : DV} {ys : List DV} {k : DV → Prop} : cmpD .notin x (.tup ys) k = ((plain x = true ∧ plains ys = true ∧ depth x ≤ 60 ∧ depths ys ≤ 59) ∧ k (.bl (!ys.any fun z => eqv z x))) := rfl
theorem cmpNiS {c : Nat} {z : S} {k : DV → Prop} : cmpD .notin (.str [c]) (.str z) k = (k (.bl (!decide (c ∈ z)))) := rfl
theorem subL {xs : List DV} {i : Int} {k : DV → Prop} : subD (.lst xs) (.int i) k = (∃ v, atD xs i = some v ∧ k v) := rfl
theorem subT {xs : List DV} {i : Int} {k : DV → Prop} : subD (.tup xs) (.int i) k = (∃ v, atD xs i = some v ∧ k v) := rfl
theorem subS {xs : S} {i : Int} {k : DV → Prop} : subD (.str xs) (.int i) k = (xs.length ≤ LINE ∧ ∃ v, atD xs i = some v ∧ k (.str [v])) := rfl
theorem cutL {xs : List DV} {i j : Option Int} {k : DV → Prop} : cutD (.lst xs) i j k = (k (.lst (cut xs i j))) := rfl
theorem cutT {xs : List DV} {i j : Option Int} {k : DV → Prop} : cutD (.tup xs) i j k = (k (.tup (cut xs i j))) := rfl
theorem cutS {xs : S} {i j : Option Int} {k : DV → Prop} : cutD (.str xs) i j k = (xs.length ≤ LINE ∧ k (.str (cut xs i j))) := rfl
theorem revL {xs : List DV} {k : DV → Prop} : revD (.lst xs) k = (k (.lst xs.reverse)) := rfl
theorem revS {xs : S} {k : DV → Prop} : revD (.str xs) k = (xs.length ≤ LINE ∧ k (.str xs.reverse)) := rfl
theorem lenL {xs : List DV} {k : DV → Prop} : bltD .len [.lst xs] k = (k (.int xs.length)) := rfl
theorem lenT {xs : List DV} {k : DV → Prop} : bltD .len [.tup xs] k = (k (.int xs.length)) := rfl
theorem lenS {xs : S} {k : DV → Prop} : bltD .len [.str xs] k = (xs.length ≤ LINE ∧ k (.int xs.length)) := rfl
theorem absI {i : Int} {k : DV → Prop} : bltD .abs [.int i] k = (k (.int (if i < 0 then -i else i))) := rfl
theorem intI {i : Int} {k : DV → Prop} : bltD .int [.int i] k = (k (.int i)) := rfl
theorem intB {b : Bool} {k : DV → Prop} : bltD .int [.bl b] k = (k (.int (if b then 1 else 0))) := rfl
theorem listL {xs : List DV} {k : DV → Prop} : bltD .list [.lst xs] k = (k (.lst xs)) := rfl
theorem listT {xs : List DV} {k : DV → Prop} : bltD .list [.tup xs] k = (k (.lst xs)) := rfl
theorem listS {ns : List Int} {k : DV → Prop} : bltD .list [.scr ns] k = (k (.lst (ns.map .int))) := rfl
theorem tupL {xs : List DV} {k : DV → Prop} : bltD .tuple [.lst xs] k = (k (.tup xs)) := rfl
theorem tupT {xs : List DV} {k : DV → Prop} : bltD .tuple [.tup xs] k = (k (.tup xs)) := rfl
theorem max2 {i j : Int} {k : DV → Prop} : bltD .max2 [.int i, .int j] k = (k (.int (if j > i then j else i))) := rfl
theorem min2 {i j : Int} {k : DV → Prop} : bltD .min2 [.int i, .int j] k = (k (.int (if j < i then j else i))) := rfl
theorem anyL {xs : List DV} {k : DV → Prop} : bltD .any [.lst xs] k = (∃ bs, bls? xs = some bs ∧ k (.bl (bs.any id))) := rfl
theorem allL {xs : List DV} {k : DV → Prop} : bltD .all [.lst xs] k = (∃ bs, bls? xs = some bs ∧ k (.bl (bs.all id))) := rfl
theorem sumL {xs : List DV} {k : DV → Prop} : bltD .sum [.lst xs] k = (∃ is, ints? xs = some is ∧ k (.int is.sum)) := rfl
theorem metA {a : Nat} {d : DV} {m : Mu} {k : Post} : metD .append (.loc a) [d] m k = (∃ xs, m a = some (.lst xs) ∧ xs.length < LINE ∧ k .non (m.put a (.lst (xs ++ [d])))) := rfl
theorem metP {a : Nat} {i : Int} {m : Mu} {k : Post} : metD .pop (.loc a) [.int i] m k = (∃ xs j v, m a = some (.lst xs) ∧ idx xs.length i = some j ∧ xs[j]? = some v ∧ k v (m.put a (.lst (xs.eraseIdx j)))) := rfl
theorem metJ {s : S} {d : DV} {m : Mu} {k : Post} : metD .join (.str s) [d] m k = (∃ xs, (look m d = .lst xs ∨ look m d = .tup xs) ∧ ∃ ss, strs? xs = some ss ∧ (ss.map List.length).sum + ss.length * s.length ≤ LINE ∧ k (.str (sjoin s ss)) m) := rfl
theorem newL {xs : List DV} {m : Mu} {k : Post} : newD (.lst xs) m k = (∀ a, m a = none → k (.loc a) (m.put a (.lst xs))) := rfl
theorem newC {xs : List (DK × DV)} {m : Mu} {k : Post} : newD (.dic xs) m k = (∀ a, m a = none → k (.loc a) (m.put a (.dic xs))) := rfl
theorem newT {xs : List (List DK × DV)} {m : Mu} {k : Post} : newD (.dit xs) m k = (∀ a, m a = none → k (.loc a) (m.put a (.dit xs))) := rfl
theorem augAI {i j : Int} {m : Mu} {k : DV → Mu → Prop} : augD .add (.int i) (.int j) m k = (k (.int (i + j)) m) := rfl
theorem augSI {i j : Int} {m : Mu} {k : DV → Mu → Prop} : augD .sub (.int i) (.int j) m k = (k (.int (i - j)) m) := rfl
theorem augAL {a : Nat} {y : DV} {m : Mu} {k : DV → Mu → Prop} : augD .add (.loc a) y m k = (∃ xs zs, m a = some (.lst xs) ∧ look m y = .lst zs ∧ xs.length + zs.length ≤ LINE ∧ k (.loc a) (m.put a (.lst (xs ++ zs)))) := rfl
theorem setLI {a : Nat} {i : Int} {v : DV} {m : Mu} {k : Mu → Prop} : setD (.loc a) (.int i) v m k = (∃ xs j, m a = some (.lst xs) ∧ idx xs.length i = some j ∧ k (m.put a (.lst (xs.set j v)))) := rfl
theorem getLI {x : DV} {i : Int} {m : Mu} {k : DV → Prop} : getD x (.int i) m k = (0 ≤ i ∧ ∃ xs u, look m x = .lst xs ∧ xs[i.toNat]? = some u ∧ k u) := rfl
theorem bindN {i : Nat} {d : DV} {r : Env} {m : Mu} {k : Env → Prop} : bindP (.name i) d r m k = (i < r.length ∧ k (r.set i (some d))) := rfl
theorem bindT {a b : Pat} {x y : DV} {r : Env} {m : Mu} {k : Env → Prop} : bindP (.pair a b) (.tup [x, y]) r m k = (bindP a x r m fun r1 => bindP b y r1 m k) := rfl
theorem var0 {G : Nat → Option Fn} {d : DV} {r : Env} {m : Mu} {k : Post} {e : XPost} : rdE G (.var 0) (some d :: r) m k e = k d m := by
  rw [rdE]
  exact propext ⟨fun ⟨_, h, h2⟩ => by cases h; exact h2, fun h => ⟨d, rfl, h⟩⟩
theorem var1 {G : Nat → Option Fn} {x0 : Option DV} {d : DV} {r : Env} {m : Mu} {k : Post} {e : XPost} : rdE G (.var 1) (x0 :: some d :: r) m k e = k d m := by
  rw [rdE]
  exact propext ⟨fun ⟨_, h, h2⟩ => by cases h; exact h2, fun h => ⟨d, rfl, h⟩⟩
theorem var2 {G : Nat → Option Fn} {x0 : Option DV} {x1 : Option DV} {d : DV} {r : Env} {m : Mu} {k : Post} {e : XPost} : rdE G (.var 2) (x0 :: x1 :: some d :: r) m k e = k d m := by
  rw [rdE]
  exact propext ⟨fun ⟨_, h, h2⟩ => by cases h; exact h2, fun h => ⟨d, rfl, h⟩⟩
theorem var3 {G : Nat → Option Fn} {x0 : Option DV} {x1 : Option DV} {x2 : Option DV} {d : DV} {r : Env} {m : Mu} {k : Post} {e : XPost} : rdE G (.var 3) (x0 :: x1 :: x2 :: some d :: r) m k e = k d m := by
  rw [rdE]
  exact propext ⟨fun ⟨_, h, h2⟩ => by cases h; exact h2, fun h => ⟨d, rfl, h⟩⟩
theorem var4 {G : Nat → Option Fn} {x0 : Option DV} {x1 : Option DV} {x2 : Option DV} {x3 : Option DV} {d : DV} {r : Env} {m : Mu} {k : Post} {e : XPost} : rdE G (.var 4) (x0 :: x1 :: x2 :: x3 :: some d :: r) m k e = k d m := by
  rw [rdE]
  exact propext ⟨fun ⟨_, h, h2⟩ => by cases h; exact h2, fun h => ⟨d, rfl, h⟩⟩
theorem var5 {G : Nat → Option Fn} {x0 : Option DV} {x1 : Option DV} {x2 : Option DV} {x3 : Option DV} {x4 : Option DV} {d : DV} {r : Env} {m : Mu} {k : Post} {e : XPost} : rdE G (.var 5) (x0 :: x1 :: x2 :: x3 :: x4 :: some d :: r) m k e = k d m := by
  rw [rdE]
  exact propext ⟨fun ⟨_, h, h2⟩ => by cases h; exact h2, fun h => ⟨d, rfl, h⟩⟩
theorem var6 {G : Nat → Option Fn} {x0 : Option DV} {x1 : Option DV} {x2 : Option DV} {x3 : Option DV} {x4 : Option DV} {x5 : Option DV} {d : DV} {r : Env} {m : Mu} {k : Post} {e : XPost} : rdE G (.var 6) (x0 :: x1 :: x2 :: x3 :: x4 :: x5 :: some d :: r) m k e = k d m := by
  rw [rdE]
  exact propext ⟨fun ⟨_, h, h2⟩ => by cases h; exact h2, fun h => ⟨d, rfl, h⟩⟩
theorem var7 {G : Nat → Option Fn} {x0 : Option DV} {x1 : Option DV} {x2 : Option DV} {x3 : Option DV} {x4 : Option DV} {x5 : Option DV} {x6 : Option DV} {d : DV} {r : Env} {m : Mu} {k : Post} {e : XPost} : rdE G (.var 7) (x0 :: x1 :: x2 :: x3 :: x4 :: x5 :: x6 :: some d :: r) m k e = k d m := by
  rw [rdE]
  exact propext ⟨fun ⟨_, h, h2⟩ => by cases h; exact h2, fun h => ⟨d, rfl, h⟩⟩
theorem var8 {G : Nat → Option Fn} {x0 : Option DV} {x1 : Option DV} {x2 : Option DV} {x3 : Option DV} {x4 : Option DV} {x5 : Option DV} {x6 : Option DV} {x7 : Option DV} {d : DV} {r : Env} {m : Mu} {k : Post} {e : XPost} : rdE G (.var 8) (x0 :: x1 :: x2 :: x3 :: x4 :: x5 :: x6 :: x7 :: some d :: r) m k e = k d m := by
  rw [rdE]
  exact propext ⟨fun ⟨_, h, h2⟩ => by cases h; exact h2, fun h => ⟨d, rfl, h⟩⟩
theorem var9 {G : Nat → Option Fn} {x0 : Option DV} {x1 : Option DV} {x2 : Option DV} {x3 : Option DV} {x4 : Option DV} {x5 : Option DV} {x6 : Option DV} {x7 : Option DV} {x8 : Option DV} {d : DV} {r : Env} {m : Mu} {k : Post} {e : XPost} : rdE G (.var 9) (x0 :: x1 :: x2 :: x3 :: x4 :: x5 :: x6 :: x7 :: x8 :: some d :: r) m k e = k d m := by
  rw [rdE]
  exact propext ⟨fun ⟨_, h, h2⟩ => by cases h; exact h2, fun h => ⟨d, rfl, h⟩⟩
theorem var10 {G : Nat → Option Fn} {x0 : Option DV} {x1 : Option DV} {x2 : Option DV} {x3 : Option DV} {x4 : Option DV} {x5 : Option DV} {x6 : Option DV} {x7 : Option DV} {x8 : Option DV} {x9 : Option DV} {d : DV} {r : Env} {m : Mu} {k : Post} {e : XPost} : rdE G (.var 10) (x0 :: x1 :: x2 :: x3 :: x4 :: x5 :: x6 :: x7 :: x8 :: x9 :: some d :: r) m k e = k d m := by
  rw [rdE]
  exact propext ⟨fun ⟨_, h, h2⟩ => by cases h; exact h2, fun h => ⟨d, rfl, h⟩⟩
theorem var11 {G : Nat → Option Fn} {x0 : Option DV} {x1 : Option DV} {x2 : Option DV} {x3 : Option DV} {x4 : Option DV} {x5 : Option DV} {x6 : Option DV} {x7 : Option DV} {x8 : Option DV} {x9 : Option DV} {x10 : Option DV} {d : DV} {r : Env} {m : Mu} {k : Post} {e : XPost} : rdE G (.var 11) (x0 :: x1 :: x2 :: x3 :: x4 :: x5 :: x6 :: x7 :: x8 :: x9 :: x10 :: some d :: r) m k e = k d m := by
  rw [rdE]
  exact propext ⟨fun ⟨_, h, h2⟩ => by cases h; exact h2, fun h => ⟨d, rfl, h⟩⟩
theorem var12 {G : Nat → Option Fn} {x0 : Option DV} {x1 : Option DV} {x2 : Option DV} {x3 : Option DV} {x4 : Option DV} {x5 : Option DV} {x6 : Option DV} {x7 : Option DV} {x8 : Option DV} {x9 : Option DV} {x10 : Option DV} {x11 : Option DV} {d : DV} {r : Env} {m : Mu} {k : Post} {e : XPost} : rdE G (.var 12) (x0 :: x1 :: x2 :: x3 :: x4 :: x5 :: x6 :: x7 :: x8 :: x9 :: x10 :: x11 :: some d :: r) m k e = k d m := by
  rw [rdE]
  exact propext ⟨fun ⟨_, h, h2⟩ => by cases h; exact h2, fun h => ⟨d, rfl, h⟩⟩
theorem var13 {G : Nat → Option Fn} {x0 : Option DV} {x1 : Option DV} {x2 : Option DV} {x3 : Option DV} {x4 : Option DV} {x5 : Option DV} {x6 : Option DV} {x7 : Option DV} {x8 : Option DV} {x9 : Option DV} {x10 : Option DV} {x11 : Option DV} {x12 : Option DV} {d : DV} {r : Env} {m : Mu} {k : Post} {e : XPost} : rdE G (.var 13) (x0 :: x1 :: x2 :: x3 :: x4 :: x5 :: x6 :: x7 :: x8 :: x9 :: x10 :: x11 :: x12 :: some d :: r) m k e = k d m := by
  rw [rdE]
  exact propext ⟨fun ⟨_, h, h2⟩ => by cases h; exact h2, fun h => ⟨d, rfl, h⟩⟩
theorem var14 {G : Nat → Option Fn} {x0 : Option DV} {x1 : Option DV} {x2 : Option DV} {x3 : Option DV} {x4 : Option DV} {x5 : Option DV} {x6 : Option DV} {x7 : Option DV} {x8 : Option DV} {x9 : Option DV} {x10 : Option DV} {x11 : Option DV} {x12 : Option DV} {x13 : Option DV} {d : DV} {r : Env} {m : Mu} {k : Post} {e : XPost} : rdE G (.var 14) (x0 :: x1 :: x2 :: x3 :: x4 :: x5 :: x6 :: x7 :: x8 :: x9 :: x10 :: x11 :: x12 :: x13 :: some d :: r) m k e = k d m := by
  rw [rdE]
  exact propext ⟨fun ⟨_, h, h2⟩ => by cases h; exact h2, fun h => ⟨d, rfl, h⟩⟩
theorem var15 {G : Nat → Option Fn} {x0 : Option DV} {x1 : Option DV} {x2 : Option DV} {x3 : Option DV} {x4 : Option DV} {x5 : Option DV} {x6 : Option DV} {x7 : Option DV} {x8 : Option DV} {x9 : Option DV} {x10 : Option DV} {x11 : Option DV} {x12 : Option DV} {x13 : Option DV} {x14 : Option DV} {d : DV} {r : Env} {m : Mu} {k : Post} {e : XPost} : rdE G (.var 15) (x0 :: x1 :: x2 :: x3 :: x4 :: x5 :: x6 :: x7 :: x8 :: x9 :: x10 :: x11 :: x12 :: x13 :: x14 :: some d :: r) m k e = k d m := by
  rw [rdE]
  exact propext ⟨fun ⟨_, h, h2⟩ => by cases h; exact h2, fun h => ⟨d, rfl, h⟩⟩
theorem var16 {G : Nat → Option Fn} {x0 : Option DV} {x1 : Option DV} {x2 : Option DV} {x3 : Option DV} {x4 : Option DV} {x5 : Option DV} {x6 : Option DV} {x7 : Option DV} {x8 : Option DV} {x9 : Option DV} {x10 : Option DV} {x11 : Option DV} {x12 : Option DV} {x13 : Option DV} {x14 : Option DV} {x15 : Option DV} {d : DV} {r : Env} {m : Mu} {k : Post} {e : XPost} : rdE G (.var 16) (x0 :: x1 :: x2 :: x3 :: x4 :: x5 :: x6 :: x7 :: x8 :: x9 :: x10 :: x11 :: x12 :: x13 :: x14 :: x15 :: some d :: r) m k e = k d m := by
  rw [rdE]
  exact propext ⟨fun ⟨_, h, h2⟩ => by cases h; exact h2, fun h => ⟨d, rfl, h⟩⟩
theorem var17 {G : Nat → Option Fn} {x0 : Option DV} {x1 : Option DV} {x2 : Option DV} {x3 : Option DV} {x4 : Option DV} {x5 : Option DV} {x6 : Option DV} {x7 : Option DV} {x8 : Option DV} {x9 : Option DV} {x10 : Option DV} {x11 : Option DV} {x12 : Option DV} {x13 : Option DV} {x14 : Option DV} {x15 : Option DV} {x16 : Option DV} {d : DV} {r : Env} {m : Mu} {k : Post} {e : XPost} : rdE G (.var 17) (x0 :: x1 :: x2 :: x3 :: x4 :: x5 :: x6 :: x7 :: x8 :: x9 :: x10 :: x11 :: x12 :: x13 :: x14 :: x15 :: x16 :: some d :: r) m k e = k d m := by
  rw [rdE]
  exact propext ⟨fun ⟨_, h, h2⟩ => by cases h; exact h2, fun h => ⟨d, rfl, h⟩⟩
theorem var18 {G : Nat → Option Fn} {x0 : Option DV} {x1 : Option DV} {x2 : Option DV} {x3 : Option DV} {x4 : Option DV} {x5 : Option DV} {x6 : Option DV} {x7 : Option DV} {x8 : Option DV} {x9 : Option DV} {x10 : Option DV} {x11 : Option DV} {x12 : Option DV} {x13 : Option DV} {x14 : Option DV} {x15 : Option DV} {x16 : Option DV} {x17 : Option DV} {d : DV} {r : Env} {m : Mu} {k : Post} {e : XPost} : rdE G (.var 18) (x0 :: x1 :: x2 :: x3 :: x4 :: x5 :: x6 :: x7 :: x8 :: x9 :: x10 :: x11 :: x12 :: x13 :: x14 :: x15 :: x16 :: x17 :: some d :: r) m k e = k d m := by
  rw [rdE]
  exact propext ⟨fun ⟨_, h, h2⟩ => by cases h; exact h2, fun h => ⟨d, rfl, h⟩⟩
theorem var19 {G : Nat → Option Fn} {x0 : Option DV} {x1 : Option DV} {x2 : Option DV} {x3 : Option DV} {x4 : Option DV} {x5 : Option DV} {x6 : Option DV} {x7 : Option DV} {x8 : Option DV} {x9 : Option DV} {x10 : Option DV} {x11 : Option DV} {x12 : Option DV} {x13 : Option DV} {x14 : Option DV} {x15 : Option DV} {x16 : Option DV} {x17 : Option DV} {x18 : Option DV} {d : DV} {r : Env} {m : Mu} {k : Post} {e : XPost} : rdE G (.var 19) (x0 :: x1 :: x2 :: x3 :: x4 :: x5 :: x6 :: x7 :: x8 :: x9 :: x10 :: x11 :: x12 :: x13 :: x14 :: x15 :: x16 :: x17 :: x18 :: some d :: r) m k e = k d m := by
  rw [rdE]
  exact propext ⟨fun ⟨_, h, h2⟩ => by cases h; exact h2, fun h => ⟨d, rfl, h⟩⟩
theorem var20 {G : Nat → Option Fn} {x0 : Option DV} {x1 : Option DV} {x2 : Option DV} {x3 : Option DV} {x4 : Option DV} {x5 : Option DV} {x6 : Option DV} {x7 : Option DV} {x8 : Option DV} {x9 : Option DV} {x10 : Option DV} {x11 : Option DV} {x12 : Option DV} {x13 : Option DV} {x14 : Option DV} {x15 : Option DV} {x16 : Option DV} {x17 : Option DV} {x18 : Option DV} {x19 : Option DV} {d : DV} {r : Env} {m : Mu} {k : Post} {e : XPost} : rdE G (.var 20) (x0 :: x1 :: x2 :: x3 :: x4 :: x5 :: x6 :: x7 :: x8 :: x9 :: x10 :: x11 :: x12 :: x13 :: x14 :: x15 :: x16 :: x17 :: x18 :: x19 :: some d :: r) m k e = k d m := by
  rw [rdE]
  exact propext ⟨fun ⟨_, h, h2⟩ => by cases h; exact h2, fun h => ⟨d, rfl, h⟩⟩
theorem var21 {G : Nat → Option Fn} {x0 : Option DV} {x1 : Option DV} {x2 : Option DV} {x3 : Option DV} {x4 : Option DV} {x5 : Option DV} {x6 : Option DV} {x7 : Option DV} {x8 : Option DV} {x9 : Option DV} {x10 : Option DV} {x11 : Option DV} {x12 : Option DV} {x13 : Option DV} {x14 : Option DV} {x15 : Option DV} {x16 : Option DV} {x17 : Option DV} {x18 : Option DV} {x19 : Option DV} {x20 : Option DV} {d : DV} {r : Env} {m : Mu} {k : Post} {e : XPost} : rdE G (.var 21) (x0 :: x1 :: x2 :: x3 :: x4 :: x5 :: x6 :: x7 :: x8 :: x9 :: x10 :: x11 :: x12 :: x13 :: x14 :: x15 :: x16 :: x17 :: x18 :: x19 :: x20 :: some d :: r) m k e = k d m := by
  rw [rdE]
  exact propext ⟨fun ⟨_, h, h2⟩ => by cases h; exact h2, fun h => ⟨d, rfl, h⟩⟩
theorem var22 {G : Nat → Option Fn} {x0 : Option DV} {x1 : Option DV} {x2 : Option DV} {x3 : Option DV} {x4 : Option DV} {x5 : Option DV} {x6 : Option DV} {x7 : Option DV} {x8 : Option DV} {x9 : Option DV} {x10 : Option DV} {x11 : Option DV} {x12 : Option DV} {x13 : Option DV} {x14 : Option DV} {x15 : Option DV} {x16 : Option DV} {x17 : Option DV} {x18 : Option DV} {x19 : Option DV} {x20 : Option DV} {x21 : Option DV} {d : DV} {r : Env} {m : Mu} {k : Post} {e : XPost} : rdE G (.var 22) (x0 :: x1 :: x2 :: x3 :: x4 :: x5 :: x6 :: x7 :: x8 :: x9 :: x10 :: x11 :: x12 :: x13 :: x14 :: x15 :: x16 :: x17 :: x18 :: x19 :: x20 :: x21 :: some d :: r) m k e = k d m := by
  rw [rdE]
  exact propext ⟨fun ⟨_, h, h2⟩ => by cases h; exact h2, fun h => ⟨d, rfl, h⟩⟩
theorem var23 {G : Nat → Option Fn} {x0 : Option DV} {x1 : Option DV} {x2 : Option DV} {x3 : Option DV} {x4 : Option DV} {x5 : Option DV} {x6 : Option DV} {x7 : Option DV} {x8 : Option DV} {x9 : Option DV} {x10 : Option DV} {x11 : Option DV} {x12 : Option DV} {x13 : Option DV} {x14 : Option DV} {x15 : Option DV} {x16 : Option DV} {x17 : Option DV} {x18 : Option DV} {x19 : Option DV} {x20 : Option DV} {x21 : Option DV} {x22 : Option DV} {d : DV} {r : Env} {m : Mu} {k : Post} {e : XPost} : rdE G (.var 23) (x0 :: x1 :: x2 :: x3 :: x4 :: x5 :: x6 :: x7 :: x8 :: x9 :: x10 :: x11 :: x12 :: x13 :: x14 :: x15 :: x16 :: x17 :: x18 :: x19 :: x20 :: x21 :: x22 :: some d :: r) m k e = k d m := by
  rw [rdE]
  exact propext ⟨fun ⟨_, h, h2⟩ => by cases h; exact h2, fun h => ⟨d, rfl, h⟩⟩
end O
end Ops
/-- a comprehension that only looks -/
theorem compW_pure {T : DV → Mu → (Option DV → Mu → Prop) → Prop} {src : Mu → Prop} {m : Mu} (f : DV → Option DV) (hsrc : src m) : ∀ {xs acc : List DV} {k : List DV → Mu → Prop}, (∀ x ∈ xs, ∀ kk : Option DV → Mu → Prop, kk (f x) m → T x m kk) → k (acc ++ xs.filterMap f) m → compW T src xs acc m k
  | [], acc, k, _, hk => ⟨hsrc, by simpa using hk⟩
  | x :: xs, acc, k, ht, hk => by
    refine ⟨hsrc, ht x List.mem_cons_self _ ?_⟩
    cases e : f x with
    | none =>
      simp only
      refine compW_pure f hsrc (fun y hy => ht y (List.mem_cons_of_mem _ hy)) ?_
      rw [List.filterMap_cons_none e] at hk
      exact hk
    | some d =>
      simp only
      refine compW_pure f hsrc (fun y hy => ht y (List.mem_cons_of_mem _ hy)) ?_
      rw [List.filterMap_cons_some e] at hk
      simpa using hk
/-- a comprehension by what holds between two turns -/
theorem compW_inv {T : DV → Mu → (Option DV → Mu → Prop) → Prop} {src : Mu → Prop} (I : List DV → List DV → Mu → Prop) {all : List DV} : ∀ {done xs acc : List DV} {m : Mu} {k : List DV → Mu → Prop}, all = done ++ xs → I done acc m →
    (∀ done x rest acc m, all = done ++ x :: rest → I done acc m → ∀ kk : Option DV → Mu → Prop, (∀ d m1, I (done ++ [x]) (acc ++ [d]) m1 → kk (some d) m1) → (∀ m1, I (done ++ [x]) acc m1 → kk none m1) → src m ∧ T x m kk) →
    (∀ acc m, I all acc m → src m ∧ k acc m) → compW T src xs acc m k
  | done, [], acc, m, k, e, h0, _, he => by
    rw [List.append_nil] at e
    subst e
    exact he acc m h0
  | done, x :: xs, acc, m, k, e, h0, hs, he => by
    have e' : all = (done ++ [x]) ++ xs := by rw [e]; simp
    exact hs done x xs acc m e h0 _ (fun d m1 h => compW_inv I e' h hs he) (fun m1 h => compW_inv I e' h hs he)
/-- a for by what holds between two turns -/
theorem forW_inv {p : Pat} {src : Mu → Prop} {body : Ends → Env → Mu → Prop} {D : Ends} (I : List DV → Env → Mu → Prop) {all : List DV} : ∀ {done xs : List DV} {r : Env} {m : Mu}, all = done ++ xs → I done r m →
    (∀ done x rest r m, all = done ++ x :: rest → I done r m → ∀ K : Env → Mu → Prop, (∀ r' m', I (done ++ [x]) r' m' → K r' m') → src m ∧ bindP p x r m fun r1 => body { D with nx := K, ct := K, bk := D.nx } r1 m) →
    (∀ r m, I all r m → src m ∧ D.nx r m) → forW p src body D xs r m
  | done, [], r, m, e, h0, _, he => by
    rw [List.append_nil] at e
    subst e
    exact he r m h0
  | done, x :: xs, r, m, e, h0, hs, he => by
    have e' : all = (done ++ [x]) ++ xs := by rw [e]; simp
    exact hs done x xs r m e h0 _ fun r' m' h => forW_inv I e' h hs he
/-- a for over what stands for the items of l -/
theorem forW_map {α : Type} {f : α → DV} {p : Pat} {src : Mu → Prop} {body : Ends → Env → Mu → Prop} {D : Ends} (I : List α → Env → Mu → Prop) {l : List α} {r : Env} {m : Mu} (h0 : I [] r m)
    (hs : ∀ done x rest r m, l = done ++ x :: rest → I done r m → ∀ K : Env → Mu → Prop, (∀ r' m', I (done ++ [x]) r' m' → K r' m') → src m ∧ bindP p (f x) r m fun r1 => body { D with nx := K, ct := K, bk := D.nx } r1 m)
    (he : ∀ r m, I l r m → src m ∧ D.nx r m) : forW p src body D (l.map f) r m := by
  have main : ∀ (xs done : List α) (r : Env) (m : Mu), l = done ++ xs → I done r m → forW p src body D (xs.map f) r m := by
    intro xs
    induction xs with
    | nil =>
      intro done r m e h
      rw [List.append_nil] at e
      subst e
      exact he r m h
    | cons x t ih =>
      intro done r m e h
      exact hs done x t r m e h _ fun r' m' h' => ih (done ++ [x]) r' m' (by rw [e]; simp) h'
  exact main l [] r m rfl h0
/-- a while by what holds and a number that falls -/
theorem whlW_inv {G : Nat → Option Fn} {t : Ts} {body : Ends → Env → Mu → Prop} {D : Ends} (I : Nat → Env → Mu → Prop)
    (hs : ∀ n r m, I n r m → ∀ K : Env → Mu → Prop, (∀ n' r' m', n' < n → I n' r' m' → K r' m') → rdT G t r m (fun c m1 => if c = true then body { D with nx := K, ct := K, bk := D.nx } r m1 else D.nx r m1) (fun x m => D.ex x r m)) :
    ∀ {n N : Nat} {r : Env} {m : Mu}, n < N → I n r m → whlW G t body D N r m := by
  intro n N
  induction N generalizing n with
  | zero => intro r m h _; omega
  | succ N ih =>
    intro r m h h0
    exact hs n r m h0 _ fun n' r' m' hn hI => ih (by omega) hI
theorem cut1 {α : Type} {x : α} {r : List α} : cut (x :: r) (some 1) none = r := by
  have e : sIx (x :: r).length 0 (some 1) = 1 := by
    show min 1 (r.length + 1) = 1
    omega
  unfold cut
  rw [e]
  show List.take (r.length + 1 - 1) r = r
  simp
theorem iteT {c : Prop} {d : Decidable c} {A B : Prop} (h : c) (a : A) : @ite Prop c d A B := by rw [if_pos h]; exact a
theorem iteF {c : Prop} {d : Decidable c} {A B : Prop} (h : ¬c) (b : B) : @ite Prop c d A B := by rw [if_neg h]; exact b
theorem iteJ {c : Prop} {d : Decidable c} {A B : Prop} (h1 : c → A) (h2 : ¬c → B) : @ite Prop c d A B := by
  by_cases h : c
  · exact iteT h (h1 h)
  · exact iteF h (h2 h)
/-- an if without more: what is known behind it, whichever way -/
theorem ite_join {c : Bool} {A B : Prop} (h1 : c = true → A) (h2 : c = false → B) : if c = true then A else B := by
  cases c with
  | true => exact h1 rfl
  | false => exact h2 rfl
end DL

set_option linter.all false
namespace K01
/-! generated by gen.py -/
def txt1 : DL.S := [48, 49, 50, 51, 52, 53, 54, 55, 56, 57]
def txt2 : DL.S := [97, 98, 99, 100, 101, 102, 103, 104, 105, 106, 107, 108, 109, 110, 111, 112, 113, 114, 115, 116, 117, 118, 119, 120, 121, 122]
def txt3 : DL.S := [97, 98, 99, 100, 101, 102, 103, 104, 105, 106, 107, 108, 109, 110, 111, 112, 113, 114, 115, 116, 117, 118, 119, 120, 121, 122, 123, 124, 125, 126, 10]
def txt4 : DL.S := [32, 33, 34, 35, 36, 38, 39, 40, 41, 42, 43, 44, 45, 46, 47, 48, 49, 50, 51, 52, 53, 54, 55, 56, 57, 58, 59, 60, 61, 62, 63, 64, 65, 66, 67, 68, 69, 70, 71, 72, 73, 74, 75, 76, 77, 78, 79, 80, 81, 82, 83, 84, 85, 86, 87, 88, 89, 90, 91, 92, 93, 94, 95, 96]
def txt5 : DL.S := [97, 98, 99, 100, 101, 102, 103, 104, 105, 106, 107, 108, 109, 110, 111, 112, 113, 114, 115, 116, 117, 118, 119, 120, 121, 122, 48, 49, 50, 51, 52, 53, 54, 55, 56, 57]
def B_valid_name_t2 : DL.Sts := .cons (.ret (.cst (.bl true))) .nil
def B_valid_name_t1 : DL.Sts := .cons (.fr (.name 1) (.seq (.var 0)) (.cons (.ifs (.and (.ex (.cmp .notin (.var 1) (.cst (.str txt2)))) (.ex (.cmp .notin (.var 1) (.cst (.str txt1))))) (.cons (.ret (.cst (.bl false))) .nil) .nil) .nil)) B_valid_name_t2
def B_valid_name : DL.Sts := .cons (.ifs (.or (.not (.ex (.cmp2 .le .le (.cst (.int 1)) (.blt .len (.cons (.var 0) .nil)) (.cst (.int 6))))) (.ex (.cmp .notin (.sub (.var 0) (.cst (.int 0))) (.cst (.str txt2))))) (.cons (.ret (.cst (.bl false))) .nil) .nil) B_valid_name_t1
-- valid_name: top 4; N ['text', 'char']; tab []
def B_law_start : DL.Sts := .cons (.ret (.own (.lst (.one (.own (.comp (.name 1) [1] (.seq (.var 0)) (.ex (.cmp .ge (.blt .abs (.cons (.var 1) .nil)) (.bin .pow (.cst (.int 10)) (.cst (.int 18))))) (.blt .abs (.cons (.var 1) .nil)))) (.one (.bin .add (.blt .list (.cons (.var 0) .nil)) (.lst (.one (.cst (.int 5)) .nil))) (.one (.cst (.int 0)) .nil)))))) .nil
-- _law_start: top 6; N ['_law_script', '_law_cell']; tab []
def B_law_draw_t5 : DL.Sts := .cons (.ret (.bin .mod (.bin .mod (.blt .int (.cons (.bin .pow (.bin .add (.bin .add (.bin .mul (.var 3) (.cst (.int 16807))) (.bin .mul (.sub (.var 0) (.cst (.int 2))) (.cst (.int 40692)))) (.cst (.int 13))) (.cst (.int 5))) .nil)) (.cst (.int 2147483629))) (.var 1))) .nil
def B_law_draw_t4 : DL.Sts := .cons (.set (.name 3) (.bin .mod (.blt .int (.cons (.bin .pow (.bin .add (.bin .add (.bin .mul (.var 2) (.cst (.int 48271))) (.bin .mul (.sub (.var 0) (.cst (.int 2))) (.cst (.int 69621)))) (.cst (.int 7))) (.cst (.int 5))) .nil)) (.cst (.int 2147483647)))) B_law_draw_t5
def B_law_draw_t3 : DL.Sts := .cons (.set (.name 2) (.bin .mod (.blt .int (.cons (.sub (.sub (.var 0) (.cst (.int 1))) (.bin .mod (.blt .int (.cons (.sub (.var 0) (.cst (.int 2))) .nil)) (.blt .len (.cons (.sub (.var 0) (.cst (.int 1))) .nil)))) .nil)) (.cst (.int 2147483647)))) B_law_draw_t4
def B_law_draw_t2 : DL.Sts := .cons (.ifs (.ex (.cmp .ne (.sub (.var 0) (.cst (.int 0))) (.lst .nil))) (.cons (.set (.name 4) (.bin .mod (.blt .int (.cons (.sub (.sub (.var 0) (.cst (.int 0))) (.cst (.int 0))) .nil)) (.var 1))) (.cons (.sub (.sub (.var 0) (.cst (.int 0))) (.cst (.int 0)) (.bin .fdiv (.sub (.sub (.var 0) (.cst (.int 0))) (.cst (.int 0))) (.var 1))) (.cons (.ret (.var 4)) .nil))) .nil) B_law_draw_t3
def B_law_draw_t1 : DL.Sts := .cons (.whl (.and (.ex (.cmp .ne (.sub (.var 0) (.cst (.int 0))) (.lst .nil))) (.ex (.cmp .eq (.sub (.sub (.var 0) (.cst (.int 0))) (.cst (.int 0))) (.cst (.int 0))))) (.cons (.sub (.var 0) (.cst (.int 0)) (.own (.slc (.sub (.var 0) (.cst (.int 0))) (.some (.cst (.int 1))) .none))) .nil)) B_law_draw_t2
def B_law_draw : DL.Sts := .cons (.saug (.var 0) (.cst (.int 2)) .add (.cst (.int 1))) B_law_draw_t1
-- _law_draw: top 7; N ['_law_state', '_law_size', '_law_cell', '_law_one', '_law_digit']; tab []
def B_law_signs_t1 : DL.Sts := .cons (.ret (.bin .add (.var 0) (.cst (.str txt3)))) .nil
def B_law_signs : DL.Sts := .cons (.set (.name 0) (.cst (.str txt4))) B_law_signs_t1
-- _law_signs: top 8; N ['_law_signs_here']; tab []
def B_law_good_t2 : DL.Sts := .cons (.ret (.cmp .eq (.comp (.name 2) [2] (.seq (.var 0)) (.ex (.cmp .notin (.var 2) (.bin .add (.var 1) (.cst (.str txt1))))) (.var 2)) (.lst .nil))) .nil
def B_law_good_t1 : DL.Sts := .cons (.ifs (.or (.ex (.cmp .lt (.blt .len (.cons (.var 0) .nil)) (.cst (.int 1)))) (.or (.ex (.cmp .gt (.blt .len (.cons (.var 0) .nil)) (.cst (.int 6)))) (.ex (.cmp .notin (.sub (.var 0) (.cst (.int 0))) (.var 1))))) (.cons (.ret (.cst (.bl false))) .nil) .nil) B_law_good_t2
def B_law_good : DL.Sts := .cons (.set (.name 1) (.cst (.str txt2))) B_law_good_t1
-- _law_good: top 9; N ['_law_word', '_law_letters', '_law_sign']; tab []
def B_law_t10 : DL.Sts := .cons (.ret (.cmp .eq (.call 0 (.cons (.rev (.var 5)) .nil)) (.call 1 (.cons (.rev (.var 5)) .nil)))) .nil
def B_law_t9 : DL.Sts := .cons (.ifs (.or (.not (.ex (.isi (.var 6) .bool))) (.ex (.cmp .ne (.var 6) (.call 1 (.cons (.var 5) .nil))))) (.cons (.ret (.cst (.bl false))) .nil) .nil) B_law_t10
def B_law_t8 : DL.Sts := .cons (.set (.name 6) (.call 2 (.cons (.var 5) .nil))) B_law_t9
def B_law_t7 : DL.Sts := .cons (.ifs (.ex (.cmp .eq (.call 3 (.cons (.var 1) (.cons (.cst (.int 6)) .nil))) (.cst (.int 0)))) (.cons (.set (.name 5) (.sub (.lst (.one (.bin .add (.var 5) (.cst (.str [10]))) (.one (.bin .add (.var 5) (.cst (.str [32]))) (.one (.bin .add (.cst (.str [32])) (.var 5)) (.one (.bin .add (.cst (.str [10])) (.var 5)) .nil))))) (.call 3 (.cons (.var 1) (.cons (.cst (.int 4)) .nil))))) .nil) .nil) B_law_t8
def B_law_t6 : DL.Sts := .cons (.set (.name 5) (.met .join (.cst (.str [])) (.cons (.var 4) .nil))) B_law_t7
def B_law_t5 : DL.Sts := .cons (.ifs (.and (.ex (.cmp .eq (.var 2) (.cst (.int 2)))) (.ex (.cmp .ne (.var 4) (.lst .nil)))) (.cons (.sub (.var 4) (.call 3 (.cons (.var 1) (.cons (.blt .len (.cons (.var 4) .nil)) .nil))) (.sub (.call 4 .nil) (.call 3 (.cons (.var 1) (.cons (.blt .len (.cons (.call 4 .nil) .nil)) .nil))))) .nil) .nil) B_law_t6
def B_law_t4 : DL.Sts := .cons (.set (.name 4) (.own (.comp (.name 7) [7] (.range1 (.call 3 (.cons (.var 1) (.cons (.sub (.lst (.one (.cst (.int 9)) (.one (.cst (.int 9)) (.one (.cst (.int 9)) (.one (.cst (.int 80)) .nil))))) (.call 3 (.cons (.var 1) (.cons (.cst (.int 4)) .nil)))) .nil)))) (.yes) (.sub (.var 3) (.call 3 (.cons (.var 1) (.cons (.blt .len (.cons (.var 3) .nil)) .nil))))))) B_law_t5
def B_law_t3 : DL.Sts := .cons (.ifs (.ex (.cmp .eq (.var 2) (.cst (.int 0)))) (.cons (.set (.name 3) (.call 4 .nil)) .nil) .nil) B_law_t4
def B_law_t2 : DL.Sts := .cons (.set (.name 3) (.cst (.str txt5))) B_law_t3
def B_law_t1 : DL.Sts := .cons (.set (.name 2) (.call 3 (.cons (.var 1) (.cons (.cst (.int 3)) .nil)))) B_law_t2
def B_law : DL.Sts := .cons (.set (.name 1) (.call 5 (.cons (.var 0) .nil))) B_law_t1
-- law: top 10; N ['_law_script', '_law_state', '_law_plan', '_law_signs_here', '_law_chars', '_law_word', '_law_actual', '_law_k']; tab [('valid_name', ('text',)), ('_law_good', ()), ('valid_name', ()), ('_law_draw', ()), ('_law_signs', ()), ('_law_start', ())]
end K01

set_option Elab.async false
set_option linter.all false
set_option maxRecDepth 100000
namespace K01
open PySem L2 DL
def top (i : Nat) : Stmt := PySem.Challenge.pw_anyfactors_k01_valid_names.main.body.getD i (.Pass ⟨0, 0, 0, 0⟩)
def N_valid : List PySem.Str := ["text", "char"]
def gls : List (PySem.Str × DV) := [("LETTERS", .str [97, 98, 99, 100, 101, 102, 103, 104, 105, 106, 107, 108, 109, 110, 111, 112, 113, 114, 115, 116, 117, 118, 119, 120, 121, 122]), ("DIGITS", .str [48, 49, 50, 51, 52, 53, 54, 55, 56, 57]), ("LONGEST", .int 6)]
theorem c_valid : chkSs ⟨N_valid, [], gls⟩ (defScope (top 4)) (fun _ => true) B_valid_name (defBody (top 4)) = true := by decide +kernel
theorem c_start : chkSs ⟨["_law_script", "_law_cell"], [], []⟩ (defScope (top 6)) (fun _ => true) B_law_start (defBody (top 6)) = true := by decide +kernel
theorem c_draw : chkSs ⟨["_law_state", "_law_size", "_law_cell", "_law_one", "_law_digit"], [], []⟩ (defScope (top 7)) (fun _ => true) B_law_draw (defBody (top 7)) = true := by decide +kernel
theorem c_signs : chkSs ⟨["_law_signs_here"], [], []⟩ (defScope (top 8)) (fun _ => true) B_law_signs (defBody (top 8)) = true := by decide +kernel
theorem c_good : chkSs ⟨["_law_word", "_law_letters", "_law_sign"], [], []⟩ (defScope (top 9)) (fun _ => true) B_law_good (defBody (top 9)) = true := by decide +kernel
theorem c_law : chkSs ⟨["_law_script", "_law_state", "_law_plan", "_law_signs_here", "_law_chars", "_law_word", "_law_actual", "_law_k"], [("valid_name", ["text"]), ("_law_good", []), ("valid_name", []), ("_law_draw", []), ("_law_signs", []), ("_law_start", [])], []⟩ (defScope (top 10)) (fun _ => true) B_law (defBody (top 10)) = true := by decide +kernel
end K01

set_option linter.all false
set_option maxRecDepth 10000
namespace K01
open DL
abbrev digits : S := txt1
abbrev letters : S := txt2
def okC (c : Nat) : Bool := decide (c ∈ letters) || decide (c ∈ digits)
def validN (s : S) : Bool := match s with
  | [] => false
  | c :: r => decide (r.length ≤ 5) && decide (c ∈ letters) && (c :: r).all okC
def G0 : Nat → Option Fn := fun _ => none
theorem d_valid (s : S) (hl : s.length ≤ LINE) (Q : DV → Prop) (E : Exc → Prop) (hq : Q (.bl (validN s))) : rdF G0 2 B_valid_name [.str s] Mu.nil (fun d _ => Q d) (fun x _ => E x) := by
  simp only [rdF, B_valid_name, List.map_cons, List.map_nil, List.length_cons, List.length_nil, Nat.zero_add, Nat.reduceAdd, Nat.reduceSub, List.replicate_succ, List.replicate_zero, List.cons_append, List.nil_append]
  rw [rdSs]
  simp only [rdS, rdT, rdE, rdA, rdI, rdO, rdW, look_non, look_bl, look_int, look_str, look_tup, look_lst, look_dic, look_dit, look_ins, look_scr, isiD, truD, isNonD, itemsD, mtyp, isRng, List.map_cons, List.map_nil, List.map, List.getElem?_cons_zero, List.getElem?_cons_succ, List.getElem?_nil, List.set_cons_zero, List.set_cons_succ, List.length_cons, List.length_nil, List.cons_append, List.nil_append, List.foldr_cons, List.foldr_nil, Option.some.injEq, exists_eq_left', exists_eq_left, exists_eq_right, and_true, true_and, Nat.zero_add, Nat.reduceAdd, Nat.reduceLT, Nat.lt_add_one, Bool.true_eq_false, Bool.false_eq_true, if_true, if_false, DV.bl.injEq, DV.int.injEq, DV.str.injEq, DV.lst.injEq, DV.tup.injEq, DV.loc.injEq, at0, at1, at2, cut1, O.binAI, O.binAS, O.binAT, O.binAL, O.binS, O.binM, O.binML, O.binF, O.binR, O.binP, O.cmpEq, O.cmpNe, O.cmpIsN, O.cmpNotN, O.cmpLt, O.cmpLtS, O.cmpLe, O.cmpGt, O.cmpGe, O.cmpInL, O.cmpInT, O.cmpInS, O.cmpNiL, O.cmpNiT, O.cmpNiS, O.subL, O.subT, O.subS, O.cutL, O.cutT, O.cutS, O.revL, O.revS, O.lenL, O.lenT, O.lenS, O.absI, O.intI, O.intB, O.listL, O.listT, O.listS, O.tupL, O.tupT, O.max2, O.min2, O.anyL, O.allL, O.sumL, O.metA, O.metP, O.metJ, O.newL, O.newC, O.newT, O.augAI, O.augSI, O.augAL, O.setLI, O.getLI, O.bindN, O.bindT, ↓O.var0, ↓O.var1, ↓O.var2, ↓O.var3, ↓O.var4, ↓O.var5, ↓O.var6, ↓O.var7, ↓O.var8, ↓O.var9, ↓O.var10, ↓O.var11, ↓O.var12, ↓O.var13, ↓O.var14, ↓O.var15, ↓O.var16, ↓O.var17, ↓O.var18, ↓O.var19, ↓O.var20, ↓O.var21, ↓O.var22, ↓O.var23]
  refine ⟨hl, ?_⟩
  cases h0 : s with
  | nil => subst h0; simpa [validN, rdSs, rdS, rdE] using hq
  | cons c r =>
    rw [← h0]
    have h0' : s.length = r.length + 1 := by rw [h0]; rfl
    rw [if_pos (by simp; omega)]
    by_cases h6 : r.length ≤ 5
    · rw [if_neg (by simp; omega)]
      refine ⟨hl, c, by rw [h0]; exact at0, ?_⟩
      by_cases hc : c ∈ txt2
      · rw [if_neg (by simp [hc])]
        simp only [rdSs, B_valid_name_t1]
        simp only [rdS, rdT, rdE, rdA, rdI, rdO, rdW, look_non, look_bl, look_int, look_str, look_tup, look_lst, look_dic, look_dit, look_ins, look_scr, isiD, truD, isNonD, itemsD, mtyp, isRng, List.map_cons, List.map_nil, List.map, List.getElem?_cons_zero, List.getElem?_cons_succ, List.getElem?_nil, List.set_cons_zero, List.set_cons_succ, List.length_cons, List.length_nil, List.cons_append, List.nil_append, List.foldr_cons, List.foldr_nil, Option.some.injEq, exists_eq_left', exists_eq_left, exists_eq_right, and_true, true_and, Nat.zero_add, Nat.reduceAdd, Nat.reduceLT, Nat.lt_add_one, Bool.true_eq_false, Bool.false_eq_true, if_true, if_false, DV.bl.injEq, DV.int.injEq, DV.str.injEq, DV.lst.injEq, DV.tup.injEq, DV.loc.injEq, at0, at1, at2, cut1, O.binAI, O.binAS, O.binAT, O.binAL, O.binS, O.binM, O.binML, O.binF, O.binR, O.binP, O.cmpEq, O.cmpNe, O.cmpIsN, O.cmpNotN, O.cmpLt, O.cmpLtS, O.cmpLe, O.cmpGt, O.cmpGe, O.cmpInL, O.cmpInT, O.cmpInS, O.cmpNiL, O.cmpNiT, O.cmpNiS, O.subL, O.subT, O.subS, O.cutL, O.cutT, O.cutS, O.revL, O.revS, O.lenL, O.lenT, O.lenS, O.absI, O.intI, O.intB, O.listL, O.listT, O.listS, O.tupL, O.tupT, O.max2, O.min2, O.anyL, O.allL, O.sumL, O.metA, O.metP, O.metJ, O.newL, O.newC, O.newT, O.augAI, O.augSI, O.augAL, O.setLI, O.getLI, O.bindN, O.bindT, ↓O.var0, ↓O.var1, ↓O.var2, ↓O.var3, ↓O.var4, ↓O.var5, ↓O.var6, ↓O.var7, ↓O.var8, ↓O.var9, ↓O.var10, ↓O.var11, ↓O.var12, ↓O.var13, ↓O.var14, ↓O.var15, ↓O.var16, ↓O.var17, ↓O.var18, ↓O.var19, ↓O.var20, ↓O.var21, ↓O.var22, ↓O.var23]
        refine ⟨fun s' e => by rw [← e]; exact hl, ?_⟩
        have hv0 : validN s = s.all okC := by rw [h0]; simp [validN, h6, hc]
        refine forW_map (fun done r' m' => m' = Mu.nil ∧ (∃ v, r' = [some (.str s), v]) ∧ done.all okC = true) ⟨rfl, ⟨none, rfl⟩, rfl⟩ ?_ ?_
        · rintro pre c' post' r' m' e1 ⟨rfl, ⟨v, rfl⟩, hp⟩ K hK
          refine ⟨trivial, ?_⟩
          simp only [rdS, rdT, rdE, rdA, rdI, rdO, rdW, look_non, look_bl, look_int, look_str, look_tup, look_lst, look_dic, look_dit, look_ins, look_scr, isiD, truD, isNonD, itemsD, mtyp, isRng, List.map_cons, List.map_nil, List.map, List.getElem?_cons_zero, List.getElem?_cons_succ, List.getElem?_nil, List.set_cons_zero, List.set_cons_succ, List.length_cons, List.length_nil, List.cons_append, List.nil_append, List.foldr_cons, List.foldr_nil, Option.some.injEq, exists_eq_left', exists_eq_left, exists_eq_right, and_true, true_and, Nat.zero_add, Nat.reduceAdd, Nat.reduceLT, Nat.lt_add_one, Bool.true_eq_false, Bool.false_eq_true, if_true, if_false, DV.bl.injEq, DV.int.injEq, DV.str.injEq, DV.lst.injEq, DV.tup.injEq, DV.loc.injEq, at0, at1, at2, cut1, O.binAI, O.binAS, O.binAT, O.binAL, O.binS, O.binM, O.binML, O.binF, O.binR, O.binP, O.cmpEq, O.cmpNe, O.cmpIsN, O.cmpNotN, O.cmpLt, O.cmpLtS, O.cmpLe, O.cmpGt, O.cmpGe, O.cmpInL, O.cmpInT, O.cmpInS, O.cmpNiL, O.cmpNiT, O.cmpNiS, O.subL, O.subT, O.subS, O.cutL, O.cutT, O.cutS, O.revL, O.revS, O.lenL, O.lenT, O.lenS, O.absI, O.intI, O.intB, O.listL, O.listT, O.listS, O.tupL, O.tupT, O.max2, O.min2, O.anyL, O.allL, O.sumL, O.metA, O.metP, O.metJ, O.newL, O.newC, O.newT, O.augAI, O.augSI, O.augAL, O.setLI, O.getLI, O.bindN, O.bindT, ↓O.var0, ↓O.var1, ↓O.var2, ↓O.var3, ↓O.var4, ↓O.var5, ↓O.var6, ↓O.var7, ↓O.var8, ↓O.var9, ↓O.var10, ↓O.var11, ↓O.var12, ↓O.var13, ↓O.var14, ↓O.var15, ↓O.var16, ↓O.var17, ↓O.var18, ↓O.var19, ↓O.var20, ↓O.var21, ↓O.var22, ↓O.var23]
          simp only [rdSs]
          simp only [rdS, rdT, rdE, rdA, rdI, rdO, rdW, look_non, look_bl, look_int, look_str, look_tup, look_lst, look_dic, look_dit, look_ins, look_scr, isiD, truD, isNonD, itemsD, mtyp, isRng, List.map_cons, List.map_nil, List.map, List.getElem?_cons_zero, List.getElem?_cons_succ, List.getElem?_nil, List.set_cons_zero, List.set_cons_succ, List.length_cons, List.length_nil, List.cons_append, List.nil_append, List.foldr_cons, List.foldr_nil, Option.some.injEq, exists_eq_left', exists_eq_left, exists_eq_right, and_true, true_and, Nat.zero_add, Nat.reduceAdd, Nat.reduceLT, Nat.lt_add_one, Bool.true_eq_false, Bool.false_eq_true, if_true, if_false, DV.bl.injEq, DV.int.injEq, DV.str.injEq, DV.lst.injEq, DV.tup.injEq, DV.loc.injEq, at0, at1, at2, cut1, O.binAI, O.binAS, O.binAT, O.binAL, O.binS, O.binM, O.binML, O.binF, O.binR, O.binP, O.cmpEq, O.cmpNe, O.cmpIsN, O.cmpNotN, O.cmpLt, O.cmpLtS, O.cmpLe, O.cmpGt, O.cmpGe, O.cmpInL, O.cmpInT, O.cmpInS, O.cmpNiL, O.cmpNiT, O.cmpNiS, O.subL, O.subT, O.subS, O.cutL, O.cutT, O.cutS, O.revL, O.revS, O.lenL, O.lenT, O.lenS, O.absI, O.intI, O.intB, O.listL, O.listT, O.listS, O.tupL, O.tupT, O.max2, O.min2, O.anyL, O.allL, O.sumL, O.metA, O.metP, O.metJ, O.newL, O.newC, O.newT, O.augAI, O.augSI, O.augAL, O.setLI, O.getLI, O.bindN, O.bindT, ↓O.var0, ↓O.var1, ↓O.var2, ↓O.var3, ↓O.var4, ↓O.var5, ↓O.var6, ↓O.var7, ↓O.var8, ↓O.var9, ↓O.var10, ↓O.var11, ↓O.var12, ↓O.var13, ↓O.var14, ↓O.var15, ↓O.var16, ↓O.var17, ↓O.var18, ↓O.var19, ↓O.var20, ↓O.var21, ↓O.var22, ↓O.var23]
          have hv : validN s = (pre ++ c' :: post').all okC := by rw [hv0, e1]
          by_cases h1 : c' ∈ txt2
          · rw [if_neg (by simp [h1])]
            exact hK _ _ ⟨rfl, ⟨_, rfl⟩, by simp [hp, okC, h1]⟩
          · rw [if_pos (by simp [h1])]
            by_cases h2 : c' ∈ txt1
            · rw [if_neg (by simp [h2])]
              exact hK _ _ ⟨rfl, ⟨_, rfl⟩, by simp [hp, okC, h2]⟩
            · rw [if_pos (by simp [h2])]
              rw [hv] at hq
              have : (pre ++ c' :: post').all okC = false := by simp [okC, h1, h2]
              rw [this] at hq
              exact hq
        · rintro r' m' ⟨rfl, ⟨v, rfl⟩, hp⟩
          refine ⟨trivial, ?_⟩
          simp only [B_valid_name_t2, rdSs, rdS, rdE]
          have hv : validN s = true := by rw [hv0]; exact hp
          rw [hv] at hq
          exact hq
      · rw [if_pos (by simp [hc])]
        have : validN s = false := by rw [h0]; simp [validN, hc]
        rw [this] at hq
        simpa [rdSs, rdS, rdE] using hq
    · rw [if_pos (by simp; omega)]
      have : validN s = false := by rw [h0]; simp [validN, h6]
      rw [this] at hq
      simpa [rdSs, rdS, rdE] using hq
end K01

set_option linter.all false
set_option maxRecDepth 10000
namespace K01
open DL
theorem plains_ints : ∀ ks : List Int, plains (ks.map DV.int) = true
  | [] => rfl
  | k :: r => by simp only [List.map_cons, plains, plain, plains_ints r, Bool.and_self]
theorem depths_ints : ∀ ks : List Int, depths (ks.map DV.int) = 0
  | [] => rfl
  | k :: r => by simp only [List.map_cons, depths, depth, depths_ints r, Nat.max_self]
theorem plains_chars : ∀ ks : List Nat, plains (ks.map fun c => DV.str [c]) = true
  | [] => rfl
  | k :: r => by simp only [List.map_cons, plains, plain, plains_chars r, Bool.and_self]
theorem depths_chars : ∀ ks : List Nat, depths (ks.map fun c => DV.str [c]) = 0
  | [] => rfl
  | k :: r => by simp only [List.map_cons, depths, depth, depths_chars r, Nat.max_self]
theorem d_signs (Q : DV → Prop) (E : Exc → Prop) (hq : Q (.str (txt4 ++ txt3))) : rdF G0 1 B_law_signs [] Mu.nil (fun d _ => Q d) (fun x _ => E x) := by
  simp only [rdF, B_law_signs, List.map_cons, List.map_nil, List.length_cons, List.length_nil, Nat.zero_add, Nat.reduceAdd, Nat.reduceSub, List.replicate_succ, List.replicate_zero, List.cons_append, List.nil_append]
  rw [rdSs]
  simp only [rdS, rdT, rdE, rdA, rdI, rdO, rdW, look_non, look_bl, look_int, look_str, look_tup, look_lst, look_dic, look_dit, look_ins, look_scr, isiD, truD, isNonD, itemsD, mtyp, isRng, List.map_cons, List.map_nil, List.map, List.getElem?_cons_zero, List.getElem?_cons_succ, List.getElem?_nil, List.set_cons_zero, List.set_cons_succ, List.length_cons, List.length_nil, List.cons_append, List.nil_append, List.foldr_cons, List.foldr_nil, Option.some.injEq, exists_eq_left', exists_eq_left, exists_eq_right, and_true, true_and, Nat.zero_add, Nat.reduceAdd, Nat.reduceLT, Nat.lt_add_one, Bool.true_eq_false, Bool.false_eq_true, if_true, if_false, DV.bl.injEq, DV.int.injEq, DV.str.injEq, DV.lst.injEq, DV.tup.injEq, DV.loc.injEq, at0, at1, at2, cut1, O.binAI, O.binAS, O.binAT, O.binAL, O.binS, O.binM, O.binML, O.binF, O.binR, O.binP, O.cmpEq, O.cmpNe, O.cmpIsN, O.cmpNotN, O.cmpLt, O.cmpLtS, O.cmpLe, O.cmpGt, O.cmpGe, O.cmpInL, O.cmpInT, O.cmpInS, O.cmpNiL, O.cmpNiT, O.cmpNiS, O.subL, O.subT, O.subS, O.cutL, O.cutT, O.cutS, O.revL, O.revS, O.lenL, O.lenT, O.lenS, O.absI, O.intI, O.intB, O.listL, O.listT, O.listS, O.tupL, O.tupT, O.max2, O.min2, O.anyL, O.allL, O.sumL, O.metA, O.metP, O.metJ, O.newL, O.newC, O.newT, O.augAI, O.augSI, O.augAL, O.setLI, O.getLI, O.bindN, O.bindT, ↓O.var0, ↓O.var1, ↓O.var2, ↓O.var3, ↓O.var4, ↓O.var5, ↓O.var6, ↓O.var7, ↓O.var8, ↓O.var9, ↓O.var10, ↓O.var11, ↓O.var12, ↓O.var13, ↓O.var14, ↓O.var15, ↓O.var16, ↓O.var17, ↓O.var18, ↓O.var19, ↓O.var20, ↓O.var21, ↓O.var22, ↓O.var23]
  rw [B_law_signs_t1, rdSs]
  simp only [rdS, rdT, rdE, rdA, rdI, rdO, rdW, look_non, look_bl, look_int, look_str, look_tup, look_lst, look_dic, look_dit, look_ins, look_scr, isiD, truD, isNonD, itemsD, mtyp, isRng, List.map_cons, List.map_nil, List.map, List.getElem?_cons_zero, List.getElem?_cons_succ, List.getElem?_nil, List.set_cons_zero, List.set_cons_succ, List.length_cons, List.length_nil, List.cons_append, List.nil_append, List.foldr_cons, List.foldr_nil, Option.some.injEq, exists_eq_left', exists_eq_left, exists_eq_right, and_true, true_and, Nat.zero_add, Nat.reduceAdd, Nat.reduceLT, Nat.lt_add_one, Bool.true_eq_false, Bool.false_eq_true, if_true, if_false, DV.bl.injEq, DV.int.injEq, DV.str.injEq, DV.lst.injEq, DV.tup.injEq, DV.loc.injEq, at0, at1, at2, cut1, O.binAI, O.binAS, O.binAT, O.binAL, O.binS, O.binM, O.binML, O.binF, O.binR, O.binP, O.cmpEq, O.cmpNe, O.cmpIsN, O.cmpNotN, O.cmpLt, O.cmpLtS, O.cmpLe, O.cmpGt, O.cmpGe, O.cmpInL, O.cmpInT, O.cmpInS, O.cmpNiL, O.cmpNiT, O.cmpNiS, O.subL, O.subT, O.subS, O.cutL, O.cutT, O.cutS, O.revL, O.revS, O.lenL, O.lenT, O.lenS, O.absI, O.intI, O.intB, O.listL, O.listT, O.listS, O.tupL, O.tupT, O.max2, O.min2, O.anyL, O.allL, O.sumL, O.metA, O.metP, O.metJ, O.newL, O.newC, O.newT, O.augAI, O.augSI, O.augAL, O.setLI, O.getLI, O.bindN, O.bindT, ↓O.var0, ↓O.var1, ↓O.var2, ↓O.var3, ↓O.var4, ↓O.var5, ↓O.var6, ↓O.var7, ↓O.var8, ↓O.var9, ↓O.var10, ↓O.var11, ↓O.var12, ↓O.var13, ↓O.var14, ↓O.var15, ↓O.var16, ↓O.var17, ↓O.var18, ↓O.var19, ↓O.var20, ↓O.var21, ↓O.var22, ↓O.var23]
  exact ⟨by decide, hq⟩
def gNot : DV → Option DV
  | .str [c] => if (!decide (c ∈ txt2 ++ txt1)) = true then some (.str [c]) else none
  | _ => none
theorem gNot_map : ∀ s : S, (s.map fun c => DV.str [c]).filterMap gNot = (s.filter fun c => !okC c).map fun c => DV.str [c]
  | [] => rfl
  | c :: r => by
    have e : okC c = decide (c ∈ txt2 ++ txt1) := by unfold okC; simp only [List.mem_append, Bool.decide_or]
    simp only [List.map_cons]
    by_cases h : (!decide (c ∈ txt2 ++ txt1)) = true
    · rw [List.filterMap_cons_some (b := .str [c]) (by simp only [gNot]; rw [if_pos h]), gNot_map r, List.filter_cons_of_pos (by rw [e]; exact h)]
      rfl
    · rw [List.filterMap_cons_none (by simp only [gNot]; rw [if_neg h]), gNot_map r, List.filter_cons_of_neg (by rw [e]; exact h)]
theorem d_good (s : S) (hl : s.length ≤ LINE) (Q : DV → Prop) (E : Exc → Prop) (hq : Q (.bl (validN s))) : rdF G0 3 B_law_good [.str s] Mu.nil (fun d _ => Q d) (fun x _ => E x) := by
  simp only [rdF, B_law_good, List.map_cons, List.map_nil, List.length_cons, List.length_nil, Nat.zero_add, Nat.reduceAdd, Nat.reduceSub, List.replicate_succ, List.replicate_zero, List.cons_append, List.nil_append]
  rw [rdSs]
  simp only [rdS, rdT, rdE, rdA, rdI, rdO, rdW, look_non, look_bl, look_int, look_str, look_tup, look_lst, look_dic, look_dit, look_ins, look_scr, isiD, truD, isNonD, itemsD, mtyp, isRng, List.map_cons, List.map_nil, List.map, List.getElem?_cons_zero, List.getElem?_cons_succ, List.getElem?_nil, List.set_cons_zero, List.set_cons_succ, List.length_cons, List.length_nil, List.cons_append, List.nil_append, List.foldr_cons, List.foldr_nil, Option.some.injEq, exists_eq_left', exists_eq_left, exists_eq_right, and_true, true_and, Nat.zero_add, Nat.reduceAdd, Nat.reduceLT, Nat.lt_add_one, Bool.true_eq_false, Bool.false_eq_true, if_true, if_false, DV.bl.injEq, DV.int.injEq, DV.str.injEq, DV.lst.injEq, DV.tup.injEq, DV.loc.injEq, at0, at1, at2, cut1, O.binAI, O.binAS, O.binAT, O.binAL, O.binS, O.binM, O.binML, O.binF, O.binR, O.binP, O.cmpEq, O.cmpNe, O.cmpIsN, O.cmpNotN, O.cmpLt, O.cmpLtS, O.cmpLe, O.cmpGt, O.cmpGe, O.cmpInL, O.cmpInT, O.cmpInS, O.cmpNiL, O.cmpNiT, O.cmpNiS, O.subL, O.subT, O.subS, O.cutL, O.cutT, O.cutS, O.revL, O.revS, O.lenL, O.lenT, O.lenS, O.absI, O.intI, O.intB, O.listL, O.listT, O.listS, O.tupL, O.tupT, O.max2, O.min2, O.anyL, O.allL, O.sumL, O.metA, O.metP, O.metJ, O.newL, O.newC, O.newT, O.augAI, O.augSI, O.augAL, O.setLI, O.getLI, O.bindN, O.bindT, ↓O.var0, ↓O.var1, ↓O.var2, ↓O.var3, ↓O.var4, ↓O.var5, ↓O.var6, ↓O.var7, ↓O.var8, ↓O.var9, ↓O.var10, ↓O.var11, ↓O.var12, ↓O.var13, ↓O.var14, ↓O.var15, ↓O.var16, ↓O.var17, ↓O.var18, ↓O.var19, ↓O.var20, ↓O.var21, ↓O.var22, ↓O.var23]
  rw [B_law_good_t1, rdSs]
  simp only [rdS, rdT, rdE, rdA, rdI, rdO, rdW, look_non, look_bl, look_int, look_str, look_tup, look_lst, look_dic, look_dit, look_ins, look_scr, isiD, truD, isNonD, itemsD, mtyp, isRng, List.map_cons, List.map_nil, List.map, List.getElem?_cons_zero, List.getElem?_cons_succ, List.getElem?_nil, List.set_cons_zero, List.set_cons_succ, List.length_cons, List.length_nil, List.cons_append, List.nil_append, List.foldr_cons, List.foldr_nil, Option.some.injEq, exists_eq_left', exists_eq_left, exists_eq_right, and_true, true_and, Nat.zero_add, Nat.reduceAdd, Nat.reduceLT, Nat.lt_add_one, Bool.true_eq_false, Bool.false_eq_true, if_true, if_false, DV.bl.injEq, DV.int.injEq, DV.str.injEq, DV.lst.injEq, DV.tup.injEq, DV.loc.injEq, at0, at1, at2, cut1, O.binAI, O.binAS, O.binAT, O.binAL, O.binS, O.binM, O.binML, O.binF, O.binR, O.binP, O.cmpEq, O.cmpNe, O.cmpIsN, O.cmpNotN, O.cmpLt, O.cmpLtS, O.cmpLe, O.cmpGt, O.cmpGe, O.cmpInL, O.cmpInT, O.cmpInS, O.cmpNiL, O.cmpNiT, O.cmpNiS, O.subL, O.subT, O.subS, O.cutL, O.cutT, O.cutS, O.revL, O.revS, O.lenL, O.lenT, O.lenS, O.absI, O.intI, O.intB, O.listL, O.listT, O.listS, O.tupL, O.tupT, O.max2, O.min2, O.anyL, O.allL, O.sumL, O.metA, O.metP, O.metJ, O.newL, O.newC, O.newT, O.augAI, O.augSI, O.augAL, O.setLI, O.getLI, O.bindN, O.bindT, ↓O.var0, ↓O.var1, ↓O.var2, ↓O.var3, ↓O.var4, ↓O.var5, ↓O.var6, ↓O.var7, ↓O.var8, ↓O.var9, ↓O.var10, ↓O.var11, ↓O.var12, ↓O.var13, ↓O.var14, ↓O.var15, ↓O.var16, ↓O.var17, ↓O.var18, ↓O.var19, ↓O.var20, ↓O.var21, ↓O.var22, ↓O.var23]
  refine ⟨hl, ?_⟩
  cases h0 : s with
  | nil => subst h0; simpa [validN, rdSs, rdS, rdE] using hq
  | cons c r =>
    rw [← h0]
    have h0' : s.length = r.length + 1 := by rw [h0]; rfl
    rw [if_neg (by simp; omega)]
    refine ⟨hl, ?_⟩
    by_cases h6 : r.length ≤ 5
    · rw [if_neg (by simp; omega)]
      refine ⟨hl, c, by rw [h0]; exact at0, ?_⟩
      by_cases hc : c ∈ txt2
      · rw [if_neg (by simp [hc])]
        simp only [rdSs, B_law_good_t2]
        simp only [rdS, rdT, rdE, rdA, rdI, rdO, rdW, look_non, look_bl, look_int, look_str, look_tup, look_lst, look_dic, look_dit, look_ins, look_scr, isiD, truD, isNonD, itemsD, mtyp, isRng, List.map_cons, List.map_nil, List.map, List.getElem?_cons_zero, List.getElem?_cons_succ, List.getElem?_nil, List.set_cons_zero, List.set_cons_succ, List.length_cons, List.length_nil, List.cons_append, List.nil_append, List.foldr_cons, List.foldr_nil, Option.some.injEq, exists_eq_left', exists_eq_left, exists_eq_right, and_true, true_and, Nat.zero_add, Nat.reduceAdd, Nat.reduceLT, Nat.lt_add_one, Bool.true_eq_false, Bool.false_eq_true, if_true, if_false, DV.bl.injEq, DV.int.injEq, DV.str.injEq, DV.lst.injEq, DV.tup.injEq, DV.loc.injEq, at0, at1, at2, cut1, O.binAI, O.binAS, O.binAT, O.binAL, O.binS, O.binM, O.binML, O.binF, O.binR, O.binP, O.cmpEq, O.cmpNe, O.cmpIsN, O.cmpNotN, O.cmpLt, O.cmpLtS, O.cmpLe, O.cmpGt, O.cmpGe, O.cmpInL, O.cmpInT, O.cmpInS, O.cmpNiL, O.cmpNiT, O.cmpNiS, O.subL, O.subT, O.subS, O.cutL, O.cutT, O.cutS, O.revL, O.revS, O.lenL, O.lenT, O.lenS, O.absI, O.intI, O.intB, O.listL, O.listT, O.listS, O.tupL, O.tupT, O.max2, O.min2, O.anyL, O.allL, O.sumL, O.metA, O.metP, O.metJ, O.newL, O.newC, O.newT, O.augAI, O.augSI, O.augAL, O.setLI, O.getLI, O.bindN, O.bindT, ↓O.var0, ↓O.var1, ↓O.var2, ↓O.var3, ↓O.var4, ↓O.var5, ↓O.var6, ↓O.var7, ↓O.var8, ↓O.var9, ↓O.var10, ↓O.var11, ↓O.var12, ↓O.var13, ↓O.var14, ↓O.var15, ↓O.var16, ↓O.var17, ↓O.var18, ↓O.var19, ↓O.var20, ↓O.var21, ↓O.var22, ↓O.var23]
        refine ⟨fun s' e => by rw [← e]; exact hl, False.elim, ?_⟩
        have hv0 : validN s = s.all okC := by rw [h0]; simp [validN, h6, hc]
        refine compW_pure gNot trivial ?_ ?_
        · intro x hx kk hkk
          obtain ⟨c', _, rfl⟩ := List.mem_map.mp hx
          refine ⟨by decide, ?_⟩
          simp only [rdS, rdT, rdE, rdA, rdI, rdO, rdW, look_non, look_bl, look_int, look_str, look_tup, look_lst, look_dic, look_dit, look_ins, look_scr, isiD, truD, isNonD, itemsD, mtyp, isRng, List.map_cons, List.map_nil, List.map, List.getElem?_cons_zero, List.getElem?_cons_succ, List.getElem?_nil, List.set_cons_zero, List.set_cons_succ, List.length_cons, List.length_nil, List.cons_append, List.nil_append, List.foldr_cons, List.foldr_nil, Option.some.injEq, exists_eq_left', exists_eq_left, exists_eq_right, and_true, true_and, Nat.zero_add, Nat.reduceAdd, Nat.reduceLT, Nat.lt_add_one, Bool.true_eq_false, Bool.false_eq_true, if_true, if_false, DV.bl.injEq, DV.int.injEq, DV.str.injEq, DV.lst.injEq, DV.tup.injEq, DV.loc.injEq, at0, at1, at2, cut1, O.binAI, O.binAS, O.binAT, O.binAL, O.binS, O.binM, O.binML, O.binF, O.binR, O.binP, O.cmpEq, O.cmpNe, O.cmpIsN, O.cmpNotN, O.cmpLt, O.cmpLtS, O.cmpLe, O.cmpGt, O.cmpGe, O.cmpInL, O.cmpInT, O.cmpInS, O.cmpNiL, O.cmpNiT, O.cmpNiS, O.subL, O.subT, O.subS, O.cutL, O.cutT, O.cutS, O.revL, O.revS, O.lenL, O.lenT, O.lenS, O.absI, O.intI, O.intB, O.listL, O.listT, O.listS, O.tupL, O.tupT, O.max2, O.min2, O.anyL, O.allL, O.sumL, O.metA, O.metP, O.metJ, O.newL, O.newC, O.newT, O.augAI, O.augSI, O.augAL, O.setLI, O.getLI, O.bindN, O.bindT, ↓O.var0, ↓O.var1, ↓O.var2, ↓O.var3, ↓O.var4, ↓O.var5, ↓O.var6, ↓O.var7, ↓O.var8, ↓O.var9, ↓O.var10, ↓O.var11, ↓O.var12, ↓O.var13, ↓O.var14, ↓O.var15, ↓O.var16, ↓O.var17, ↓O.var18, ↓O.var19, ↓O.var20, ↓O.var21, ↓O.var22, ↓O.var23]
          simp only [gNot] at hkk
          by_cases hq : (!decide (c' ∈ txt2 ++ txt1)) = true
          · rw [if_pos hq] at hkk ⊢; exact hkk
          · rw [if_neg hq] at hkk ⊢; exact hkk
        · rw [List.nil_append, gNot_map]
          refine ⟨by decide, ⟨by unfold plain; exact plains_chars _, rfl, by unfold depth; rw [depths_chars]; decide, by decide⟩, ?_⟩
          rw [hv0] at hq
          have : eqv (DV.lst ((s.filter fun c => !okC c).map fun c => DV.str [c])) (DV.lst []) = s.all okC := by
            cases e : s.filter fun c => !okC c with
            | nil =>
              have h : s.all okC = true := by
                rw [List.all_eq_true]
                intro x hx
                have := List.filter_eq_nil_iff.mp e x hx
                simpa using this
              rw [h]; rfl
            | cons x r =>
              have h : s.all okC = false := by
                have hx : x ∈ s.filter fun c => !okC c := by rw [e]; exact List.mem_cons_self
                rw [List.mem_filter] at hx
                rw [List.all_eq_false]
                exact ⟨x, hx.1, by simpa using hx.2⟩
              rw [h]; rfl
          rw [this]
          exact hq
      · rw [if_pos (by simp [hc])]
        have : validN s = false := by rw [h0]; simp [validN, hc]
        rw [this] at hq
        simpa [rdSs, rdS, rdE] using hq
    · rw [if_pos (by simp; omega)]
      have : validN s = false := by rw [h0]; simp [validN, h6]
      rw [this] at hq
      simpa [rdSs, rdS, rdE] using hq
/-- the law's state: place a, its list of big numbers at b, its count j -/
def St (m : Mu) (a b : Nat) (j : Int) : Prop := a ≠ b ∧ 0 ≤ j ∧ (∃ ks : List Int, ks ≠ [] ∧ m a = some (.lst [.loc b, .lst (ks.map .int), .int j])) ∧ ∃ is : List Int, m b = some (.lst (is.map .int))
/-- one draw -/
def Drawn (m m' : Mu) (a b b' : Nat) (j : Int) : Prop := St m' a b' j ∧ (b' = b ∨ m b' = none) ∧ ∀ c, c ≠ a → c ≠ b → m c ≠ none → m' c = m c
def startS : FSp := fun ds m k _ => ∃ ns : List Int, ds = [.scr ns] ∧ ns.length ≤ 100000 ∧ ∀ a b m', St m' a b 0 → (∀ c, m c ≠ none → m' c = m c ∧ c ≠ a ∧ c ≠ b) → k (.loc a) m'
def drawS : FSp := fun ds m k _ => ∃ (a b : Nat) (j n : Int), ds = [.loc a, .int n] ∧ St m a b j ∧ j < 1000000 ∧ 0 < n ∧ n < 1000000 ∧ ∀ r b' m', 0 ≤ r → r < n → Drawn m m' a b b' (j + 1) → k (.int r) m'
theorem St.ne {m : Mu} {a b : Nat} {j : Int} (h : St m a b j) : m a ≠ none := by
  obtain ⟨_, _, ⟨ks, _, e⟩, _⟩ := h
  rw [e]; simp
theorem Drawn.putb {m0 m : Mu} {a b0 b : Nat} {j : Int} (h : Drawn m0 m a b0 b j) (is : List Int) : Drawn m0 (m.put b (.lst (is.map .int))) a b0 b j := by
  obtain ⟨⟨hab, hj, ⟨ks, hk, ha⟩, is0, hb⟩, hf, hc⟩ := h
  refine ⟨⟨hab, hj, ⟨ks, hk, by rw [put_ne hab]; exact ha⟩, is, put_same⟩, hf, fun c h1 h2 h3 => ?_⟩
  have : c ≠ b := by
    intro e
    subst e
    rcases hf with hf | hf
    · exact h2 hf
    · exact h3 hf
  rw [put_ne this]
  exact hc c h1 h2 h3
theorem Drawn.new {m0 m : Mu} {a b0 b c : Nat} {j : Int} (h : Drawn m0 m a b0 b j) (hn : m c = none) (is ks : List Int) (hk : ks ≠ []) : Drawn m0 ((m.put c (.lst (is.map .int))).put a (.lst [.loc c, .lst (ks.map .int), .int j])) a b0 c j := by
  have hca : a ≠ c := fun e => h.1.ne (by rw [e]; exact hn)
  obtain ⟨⟨hab, hj, ⟨_, _, ha⟩, is0, hb⟩, hf, hc⟩ := h
  refine ⟨⟨hca, hj, ⟨ks, hk, put_same⟩, is, by rw [put_ne (Ne.symm hca)]; exact put_same⟩, ?_, fun d h1 h2 h3 => ?_⟩
  · by_cases e : c = b0
    · exact .inl e
    · by_cases e2 : m0 c = none
      · exact .inr e2
      · have := hc c (Ne.symm hca) e e2
        rw [hn] at this
        exact absurd this.symm e2
  · rw [put_ne h1]
    have : d ≠ c := by
      intro e
      subst e
      have := hc d h1 h2 h3
      rw [hn] at this
      exact h3 this.symm
    rw [put_ne this]
    exact hc d h1 h2 h3
abbrev DF (k : Post) (e : XPost) : Ends := { nx := fun _ m1 => k .non m1, rt := k, bk := fun _ _ => False, ct := fun _ _ => False, ex := fun x _ m => e x m }
def gBig : DV → Option DV
  | .int i => if (10 ^ 18 ≤ if i < 0 then -i else i) then some (.int (if i < 0 then -i else i)) else none
  | _ => none
theorem gBig_map (ns : List Int) : ∃ is : List Int, (ns.map DV.int).filterMap gBig = is.map DV.int := by
  induction ns with
  | nil => exact ⟨[], rfl⟩
  | cons i r ih =>
    obtain ⟨is, ih⟩ := ih
    rw [List.map_cons]
    by_cases h : (10 ^ 18 ≤ if i < 0 then -i else i)
    · exact ⟨(if i < 0 then -i else i) :: is, by rw [List.filterMap_cons_some (b := .int (if i < 0 then -i else i)) (by simp only [gBig, h, if_true]), ih]; rfl⟩
    · exact ⟨is, by rw [List.filterMap_cons_none (by simp only [gBig, h, if_false]), ih]⟩
theorem d_start : ∀ ds m k e, startS ds m k e → rdF G0 2 B_law_start ds m k e := by
  rintro ds m k e ⟨ns, rfl, hn, hk⟩
  simp only [rdF, B_law_start, List.map_cons, List.map_nil, List.length_cons, List.length_nil, Nat.zero_add, Nat.reduceAdd, Nat.reduceSub, List.replicate_succ, List.replicate_zero, List.cons_append, List.nil_append]
  rw [rdSs]
  simp only [rdS, rdT, rdE, rdA, rdI, rdO, rdW, look_non, look_bl, look_int, look_str, look_tup, look_lst, look_dic, look_dit, look_ins, look_scr, isiD, truD, isNonD, itemsD, mtyp, isRng, List.map_cons, List.map_nil, List.map, List.getElem?_cons_zero, List.getElem?_cons_succ, List.getElem?_nil, List.set_cons_zero, List.set_cons_succ, List.length_cons, List.length_nil, List.cons_append, List.nil_append, List.foldr_cons, List.foldr_nil, Option.some.injEq, exists_eq_left', exists_eq_left, exists_eq_right, and_true, true_and, Nat.zero_add, Nat.reduceAdd, Nat.reduceLT, Nat.lt_add_one, Bool.true_eq_false, Bool.false_eq_true, if_true, if_false, DV.bl.injEq, DV.int.injEq, DV.str.injEq, DV.lst.injEq, DV.tup.injEq, DV.loc.injEq, at0, at1, at2, cut1, O.binAI, O.binAS, O.binAT, O.binAL, O.binS, O.binM, O.binML, O.binF, O.binR, O.binP, O.cmpEq, O.cmpNe, O.cmpIsN, O.cmpNotN, O.cmpLt, O.cmpLtS, O.cmpLe, O.cmpGt, O.cmpGe, O.cmpInL, O.cmpInT, O.cmpInS, O.cmpNiL, O.cmpNiT, O.cmpNiS, O.subL, O.subT, O.subS, O.cutL, O.cutT, O.cutS, O.revL, O.revS, O.lenL, O.lenT, O.lenS, O.absI, O.intI, O.intB, O.listL, O.listT, O.listS, O.tupL, O.tupT, O.max2, O.min2, O.anyL, O.allL, O.sumL, O.metA, O.metP, O.metJ, O.newL, O.newC, O.newT, O.augAI, O.augSI, O.augAL, O.setLI, O.getLI, O.bindN, O.bindT, ↓O.var0, ↓O.var1, ↓O.var2, ↓O.var3, ↓O.var4, ↓O.var5, ↓O.var6, ↓O.var7, ↓O.var8, ↓O.var9, ↓O.var10, ↓O.var11, ↓O.var12, ↓O.var13, ↓O.var14, ↓O.var15, ↓O.var16, ↓O.var17, ↓O.var18, ↓O.var19, ↓O.var20, ↓O.var21, ↓O.var22, ↓O.var23]
  refine ⟨(fun s h => by cases h), False.elim, ?_⟩
  refine compW_pure gBig trivial ?_ ?_
  · intro x hx kk hkk
    obtain ⟨i, _, rfl⟩ := List.mem_map.mp hx
    simp only [rdS, rdT, rdE, rdA, rdI, rdO, rdW, look_non, look_bl, look_int, look_str, look_tup, look_lst, look_dic, look_dit, look_ins, look_scr, isiD, truD, isNonD, itemsD, mtyp, isRng, List.map_cons, List.map_nil, List.map, List.getElem?_cons_zero, List.getElem?_cons_succ, List.getElem?_nil, List.set_cons_zero, List.set_cons_succ, List.length_cons, List.length_nil, List.cons_append, List.nil_append, List.foldr_cons, List.foldr_nil, Option.some.injEq, exists_eq_left', exists_eq_left, exists_eq_right, and_true, true_and, Nat.zero_add, Nat.reduceAdd, Nat.reduceLT, Nat.lt_add_one, Bool.true_eq_false, Bool.false_eq_true, if_true, if_false, DV.bl.injEq, DV.int.injEq, DV.str.injEq, DV.lst.injEq, DV.tup.injEq, DV.loc.injEq, at0, at1, at2, cut1, O.binAI, O.binAS, O.binAT, O.binAL, O.binS, O.binM, O.binML, O.binF, O.binR, O.binP, O.cmpEq, O.cmpNe, O.cmpIsN, O.cmpNotN, O.cmpLt, O.cmpLtS, O.cmpLe, O.cmpGt, O.cmpGe, O.cmpInL, O.cmpInT, O.cmpInS, O.cmpNiL, O.cmpNiT, O.cmpNiS, O.subL, O.subT, O.subS, O.cutL, O.cutT, O.cutS, O.revL, O.revS, O.lenL, O.lenT, O.lenS, O.absI, O.intI, O.intB, O.listL, O.listT, O.listS, O.tupL, O.tupT, O.max2, O.min2, O.anyL, O.allL, O.sumL, O.metA, O.metP, O.metJ, O.newL, O.newC, O.newT, O.augAI, O.augSI, O.augAL, O.setLI, O.getLI, O.bindN, O.bindT, ↓O.var0, ↓O.var1, ↓O.var2, ↓O.var3, ↓O.var4, ↓O.var5, ↓O.var6, ↓O.var7, ↓O.var8, ↓O.var9, ↓O.var10, ↓O.var11, ↓O.var12, ↓O.var13, ↓O.var14, ↓O.var15, ↓O.var16, ↓O.var17, ↓O.var18, ↓O.var19, ↓O.var20, ↓O.var21, ↓O.var22, ↓O.var23]
    refine ⟨by decide, ?_⟩
    by_cases h : (10 ^ 18 ≤ if i < 0 then -i else i)
    · simp only [gBig, h, if_true] at hkk
      refine iteT (by exact decide_eq_true h) hkk
    · simp only [gBig, h, if_false] at hkk
      refine iteF (by intro h'; exact h (of_decide_eq_true h')) hkk
  · rw [List.nil_append]
    intro b hb
    refine ⟨by decide, by rw [List.length_map]; exact Nat.le_trans (Nat.succ_le_succ hn) (by decide), by decide, fun a ha => ?_⟩
    have hab : a ≠ b := by
      intro e
      subst e
      rw [put_same] at ha
      cases ha
    rw [put_ne hab] at ha
    obtain ⟨is, his⟩ := gBig_map ns
    rw [his]
    refine hk a b _ ⟨hab, Int.le_refl 0, ⟨ns ++ [5], by simp, by rw [put_same, List.map_append]; rfl⟩, is, by rw [put_ne (Ne.symm hab)]; exact put_same⟩ fun c hc => ?_
    have h1 : c ≠ a := fun e => hc (by rw [e]; exact ha)
    have h2 : c ≠ b := fun e => hc (by rw [e]; exact hb)
    exact ⟨by rw [put_ne h1, put_ne h2], h1, h2⟩
theorem fm0 (i : Int) {n : Int} (h : 0 < n) : 0 ≤ i.fmod n := Int.fmod_nonneg_of_pos i h
theorem fm1 (i : Int) {n : Int} (h : 0 < n) : i.fmod n < n := Int.fmod_lt_of_pos i h
theorem nAbs {i : Int} {n : Nat} (h0 : 0 ≤ i) (h : i < n) : i.natAbs < n := by omega
theorem draw5 {a b0 b : Nat} {j n c d : Int} {m0 m : Mu} {k : Post} {e : XPost} (hj : j < 2000000) (hn : 0 < n) (hd : 0 ≤ d ∧ d < 2147483647) (hs : Drawn m0 m a b0 b j) (hk : ∀ r b' m', 0 ≤ r → r < n → Drawn m0 m' a b0 b' j → k (.int r) m') :
    rdSs G0 B_law_draw_t5 (DF k e) [some (.loc a), some (.int n), some (.int c), some (.int d), none] m := by
  obtain ⟨⟨hab, h0, ⟨ks, hks, ha⟩, is, hb⟩, hf, hc⟩ := id hs
  rw [B_law_draw_t5, rdSs]
  simp only [rdS, rdT, rdE, rdA, rdI, rdO, rdW, look_non, look_bl, look_int, look_str, look_tup, look_lst, look_dic, look_dit, look_ins, look_scr, isiD, truD, isNonD, itemsD, mtyp, isRng, List.map_cons, List.map_nil, List.map, List.getElem?_cons_zero, List.getElem?_cons_succ, List.getElem?_nil, List.set_cons_zero, List.set_cons_succ, List.length_cons, List.length_nil, List.cons_append, List.nil_append, List.foldr_cons, List.foldr_nil, Option.some.injEq, exists_eq_left', exists_eq_left, exists_eq_right, and_true, true_and, Nat.zero_add, Nat.reduceAdd, Nat.reduceLT, Nat.lt_add_one, Bool.true_eq_false, Bool.false_eq_true, if_true, if_false, DV.bl.injEq, DV.int.injEq, DV.str.injEq, DV.lst.injEq, DV.tup.injEq, DV.loc.injEq, at0, at1, at2, cut1, O.binAI, O.binAS, O.binAT, O.binAL, O.binS, O.binM, O.binML, O.binF, O.binR, O.binP, O.cmpEq, O.cmpNe, O.cmpIsN, O.cmpNotN, O.cmpLt, O.cmpLtS, O.cmpLe, O.cmpGt, O.cmpGe, O.cmpInL, O.cmpInT, O.cmpInS, O.cmpNiL, O.cmpNiT, O.cmpNiS, O.subL, O.subT, O.subS, O.cutL, O.cutT, O.cutS, O.revL, O.revS, O.lenL, O.lenT, O.lenS, O.absI, O.intI, O.intB, O.listL, O.listT, O.listS, O.tupL, O.tupT, O.max2, O.min2, O.anyL, O.allL, O.sumL, O.metA, O.metP, O.metJ, O.newL, O.newC, O.newT, O.augAI, O.augSI, O.augAL, O.setLI, O.getLI, O.bindN, O.bindT, ↓O.var0, ↓O.var1, ↓O.var2, ↓O.var3, ↓O.var4, ↓O.var5, ↓O.var6, ↓O.var7, ↓O.var8, ↓O.var9, ↓O.var10, ↓O.var11, ↓O.var12, ↓O.var13, ↓O.var14, ↓O.var15, ↓O.var16, ↓O.var17, ↓O.var18, ↓O.var19, ↓O.var20, ↓O.var21, ↓O.var22, ↓O.var23, look_loc ha, ha]
  exact ⟨.inl (.inr (by decide)), .inl (.inr (by decide)), ⟨by decide, by decide, nAbs (by omega) (by omega)⟩, by decide, by omega, hk _ b m (fm0 _ hn) (fm1 _ hn) hs⟩
theorem draw4 {a b0 b : Nat} {j n c : Int} {m0 m : Mu} {k : Post} {e : XPost} (hj : j < 2000000) (hn : 0 < n) (hd : 0 ≤ c ∧ c < 2147483647) (hs : Drawn m0 m a b0 b j) (hk : ∀ r b' m', 0 ≤ r → r < n → Drawn m0 m' a b0 b' j → k (.int r) m') :
    rdSs G0 B_law_draw_t4 (DF k e) [some (.loc a), some (.int n), some (.int c), none, none] m := by
  obtain ⟨⟨hab, h0, ⟨ks, hks, ha⟩, is, hb⟩, hf, hc⟩ := id hs
  rw [B_law_draw_t4, rdSs]
  simp only [rdS, rdT, rdE, rdA, rdI, rdO, rdW, look_non, look_bl, look_int, look_str, look_tup, look_lst, look_dic, look_dit, look_ins, look_scr, isiD, truD, isNonD, itemsD, mtyp, isRng, List.map_cons, List.map_nil, List.map, List.getElem?_cons_zero, List.getElem?_cons_succ, List.getElem?_nil, List.set_cons_zero, List.set_cons_succ, List.length_cons, List.length_nil, List.cons_append, List.nil_append, List.foldr_cons, List.foldr_nil, Option.some.injEq, exists_eq_left', exists_eq_left, exists_eq_right, and_true, true_and, Nat.zero_add, Nat.reduceAdd, Nat.reduceLT, Nat.lt_add_one, Bool.true_eq_false, Bool.false_eq_true, if_true, if_false, DV.bl.injEq, DV.int.injEq, DV.str.injEq, DV.lst.injEq, DV.tup.injEq, DV.loc.injEq, at0, at1, at2, cut1, O.binAI, O.binAS, O.binAT, O.binAL, O.binS, O.binM, O.binML, O.binF, O.binR, O.binP, O.cmpEq, O.cmpNe, O.cmpIsN, O.cmpNotN, O.cmpLt, O.cmpLtS, O.cmpLe, O.cmpGt, O.cmpGe, O.cmpInL, O.cmpInT, O.cmpInS, O.cmpNiL, O.cmpNiT, O.cmpNiS, O.subL, O.subT, O.subS, O.cutL, O.cutT, O.cutS, O.revL, O.revS, O.lenL, O.lenT, O.lenS, O.absI, O.intI, O.intB, O.listL, O.listT, O.listS, O.tupL, O.tupT, O.max2, O.min2, O.anyL, O.allL, O.sumL, O.metA, O.metP, O.metJ, O.newL, O.newC, O.newT, O.augAI, O.augSI, O.augAL, O.setLI, O.getLI, O.bindN, O.bindT, ↓O.var0, ↓O.var1, ↓O.var2, ↓O.var3, ↓O.var4, ↓O.var5, ↓O.var6, ↓O.var7, ↓O.var8, ↓O.var9, ↓O.var10, ↓O.var11, ↓O.var12, ↓O.var13, ↓O.var14, ↓O.var15, ↓O.var16, ↓O.var17, ↓O.var18, ↓O.var19, ↓O.var20, ↓O.var21, ↓O.var22, ↓O.var23, look_loc ha, ha]
  exact ⟨.inl (.inr (by decide)), .inl (.inr (by decide)), ⟨by decide, by decide, nAbs (by omega) (by omega)⟩, by decide, draw5 hj hn ⟨fm0 _ (by decide), fm1 _ (by decide)⟩ hs hk⟩
theorem draw3 {a b0 b : Nat} {j n : Int} {m0 m : Mu} {k : Post} {e : XPost} (hj : j < 2000000) (hn : 0 < n) (hs : Drawn m0 m a b0 b j) (hk : ∀ r b' m', 0 ≤ r → r < n → Drawn m0 m' a b0 b' j → k (.int r) m') :
    rdSs G0 B_law_draw_t3 (DF k e) [some (.loc a), some (.int n), none, none, none] m := by
  obtain ⟨⟨hab, h0, ⟨ks, hks, ha⟩, is, hb⟩, hf, hc⟩ := id hs
  rw [B_law_draw_t3, rdSs]
  simp only [rdS, rdT, rdE, rdA, rdI, rdO, rdW, look_non, look_bl, look_int, look_str, look_tup, look_lst, look_dic, look_dit, look_ins, look_scr, isiD, truD, isNonD, itemsD, mtyp, isRng, List.map_cons, List.map_nil, List.map, List.getElem?_cons_zero, List.getElem?_cons_succ, List.getElem?_nil, List.set_cons_zero, List.set_cons_succ, List.length_cons, List.length_nil, List.cons_append, List.nil_append, List.foldr_cons, List.foldr_nil, Option.some.injEq, exists_eq_left', exists_eq_left, exists_eq_right, and_true, true_and, Nat.zero_add, Nat.reduceAdd, Nat.reduceLT, Nat.lt_add_one, Bool.true_eq_false, Bool.false_eq_true, if_true, if_false, DV.bl.injEq, DV.int.injEq, DV.str.injEq, DV.lst.injEq, DV.tup.injEq, DV.loc.injEq, at0, at1, at2, cut1, O.binAI, O.binAS, O.binAT, O.binAL, O.binS, O.binM, O.binML, O.binF, O.binR, O.binP, O.cmpEq, O.cmpNe, O.cmpIsN, O.cmpNotN, O.cmpLt, O.cmpLtS, O.cmpLe, O.cmpGt, O.cmpGe, O.cmpInL, O.cmpInT, O.cmpInS, O.cmpNiL, O.cmpNiT, O.cmpNiS, O.subL, O.subT, O.subS, O.cutL, O.cutT, O.cutS, O.revL, O.revS, O.lenL, O.lenT, O.lenS, O.absI, O.intI, O.intB, O.listL, O.listT, O.listS, O.tupL, O.tupT, O.max2, O.min2, O.anyL, O.allL, O.sumL, O.metA, O.metP, O.metJ, O.newL, O.newC, O.newT, O.augAI, O.augSI, O.augAL, O.setLI, O.getLI, O.bindN, O.bindT, ↓O.var0, ↓O.var1, ↓O.var2, ↓O.var3, ↓O.var4, ↓O.var5, ↓O.var6, ↓O.var7, ↓O.var8, ↓O.var9, ↓O.var10, ↓O.var11, ↓O.var12, ↓O.var13, ↓O.var14, ↓O.var15, ↓O.var16, ↓O.var17, ↓O.var18, ↓O.var19, ↓O.var20, ↓O.var21, ↓O.var22, ↓O.var23, look_loc ha, ha]
  have hp : (0 : Int) < ((List.map DV.int ks).length : Nat) := by
    rw [List.length_map]
    cases ks with
    | nil => exact absurd rfl hks
    | cons _ _ => simp only [List.length_cons]; omega
  refine ⟨by omega, _, atD_some (fm0 _ hp) (fm1 _ hp), ?_⟩
  rw [List.getElem_map]
  simp only [look_int]
  exact ⟨by decide, draw4 hj hn ⟨fm0 _ (by decide), fm1 _ (by decide)⟩ hs hk⟩
theorem draw2 {a b0 b : Nat} {j n : Int} {m0 m : Mu} {k : Post} {e : XPost} (hj : j < 2000000) (hn : 0 < n) (hn2 : n < 1000000) (hs : Drawn m0 m a b0 b j) (hk : ∀ r b' m', 0 ≤ r → r < n → Drawn m0 m' a b0 b' j → k (.int r) m') :
    rdSs G0 B_law_draw_t2 (DF k e) [some (.loc a), some (.int n), none, none, none] m := by
  obtain ⟨⟨hab, h0, ⟨ks, hks, ha⟩, is, hb⟩, hf, hc⟩ := id hs
  rw [B_law_draw_t2, rdSs]
  simp only [rdS, rdT, rdE, rdA, rdI, rdO, rdW, look_non, look_bl, look_int, look_str, look_tup, look_lst, look_dic, look_dit, look_ins, look_scr, isiD, truD, isNonD, itemsD, mtyp, isRng, List.map_cons, List.map_nil, List.map, List.getElem?_cons_zero, List.getElem?_cons_succ, List.getElem?_nil, List.set_cons_zero, List.set_cons_succ, List.length_cons, List.length_nil, List.cons_append, List.nil_append, List.foldr_cons, List.foldr_nil, Option.some.injEq, exists_eq_left', exists_eq_left, exists_eq_right, and_true, true_and, Nat.zero_add, Nat.reduceAdd, Nat.reduceLT, Nat.lt_add_one, Bool.true_eq_false, Bool.false_eq_true, if_true, if_false, DV.bl.injEq, DV.int.injEq, DV.str.injEq, DV.lst.injEq, DV.tup.injEq, DV.loc.injEq, at0, at1, at2, cut1, O.binAI, O.binAS, O.binAT, O.binAL, O.binS, O.binM, O.binML, O.binF, O.binR, O.binP, O.cmpEq, O.cmpNe, O.cmpIsN, O.cmpNotN, O.cmpLt, O.cmpLtS, O.cmpLe, O.cmpGt, O.cmpGe, O.cmpInL, O.cmpInT, O.cmpInS, O.cmpNiL, O.cmpNiT, O.cmpNiS, O.subL, O.subT, O.subS, O.cutL, O.cutT, O.cutS, O.revL, O.revS, O.lenL, O.lenT, O.lenS, O.absI, O.intI, O.intB, O.listL, O.listT, O.listS, O.tupL, O.tupT, O.max2, O.min2, O.anyL, O.allL, O.sumL, O.metA, O.metP, O.metJ, O.newL, O.newC, O.newT, O.augAI, O.augSI, O.augAL, O.setLI, O.getLI, O.bindN, O.bindT, ↓O.var0, ↓O.var1, ↓O.var2, ↓O.var3, ↓O.var4, ↓O.var5, ↓O.var6, ↓O.var7, ↓O.var8, ↓O.var9, ↓O.var10, ↓O.var11, ↓O.var12, ↓O.var13, ↓O.var14, ↓O.var15, ↓O.var16, ↓O.var17, ↓O.var18, ↓O.var19, ↓O.var20, ↓O.var21, ↓O.var22, ↓O.var23, look_loc ha, look_loc hb]
  refine ⟨by decide, ⟨by unfold plain; exact plains_ints _, rfl, by unfold depth; rw [depths_ints]; decide, by decide⟩, ?_⟩
  cases is with
  | nil =>
    rw [if_neg (by simp [eqv, eqvs]), rdSs]
    exact draw3 hj hn hs hk
  | cons i is =>
    rw [if_pos (by simp [eqv, eqvs])]
    rw [rdSs]
    simp only [rdS, rdT, rdE, rdA, rdI, rdO, rdW, look_non, look_bl, look_int, look_str, look_tup, look_lst, look_dic, look_dit, look_ins, look_scr, isiD, truD, isNonD, itemsD, mtyp, isRng, List.map_cons, List.map_nil, List.map, List.getElem?_cons_zero, List.getElem?_cons_succ, List.getElem?_nil, List.set_cons_zero, List.set_cons_succ, List.length_cons, List.length_nil, List.cons_append, List.nil_append, List.foldr_cons, List.foldr_nil, Option.some.injEq, exists_eq_left', exists_eq_left, exists_eq_right, and_true, true_and, Nat.zero_add, Nat.reduceAdd, Nat.reduceLT, Nat.lt_add_one, Bool.true_eq_false, Bool.false_eq_true, if_true, if_false, DV.bl.injEq, DV.int.injEq, DV.str.injEq, DV.lst.injEq, DV.tup.injEq, DV.loc.injEq, at0, at1, at2, cut1, O.binAI, O.binAS, O.binAT, O.binAL, O.binS, O.binM, O.binML, O.binF, O.binR, O.binP, O.cmpEq, O.cmpNe, O.cmpIsN, O.cmpNotN, O.cmpLt, O.cmpLtS, O.cmpLe, O.cmpGt, O.cmpGe, O.cmpInL, O.cmpInT, O.cmpInS, O.cmpNiL, O.cmpNiT, O.cmpNiS, O.subL, O.subT, O.subS, O.cutL, O.cutT, O.cutS, O.revL, O.revS, O.lenL, O.lenT, O.lenS, O.absI, O.intI, O.intB, O.listL, O.listT, O.listS, O.tupL, O.tupT, O.max2, O.min2, O.anyL, O.allL, O.sumL, O.metA, O.metP, O.metJ, O.newL, O.newC, O.newT, O.augAI, O.augSI, O.augAL, O.setLI, O.getLI, O.bindN, O.bindT, ↓O.var0, ↓O.var1, ↓O.var2, ↓O.var3, ↓O.var4, ↓O.var5, ↓O.var6, ↓O.var7, ↓O.var8, ↓O.var9, ↓O.var10, ↓O.var11, ↓O.var12, ↓O.var13, ↓O.var14, ↓O.var15, ↓O.var16, ↓O.var17, ↓O.var18, ↓O.var19, ↓O.var20, ↓O.var21, ↓O.var22, ↓O.var23, look_loc ha, look_loc hb]
    refine ⟨by omega, ?_⟩
    rw [rdSs]
    simp only [rdS, rdT, rdE, rdA, rdI, rdO, rdW, look_non, look_bl, look_int, look_str, look_tup, look_lst, look_dic, look_dit, look_ins, look_scr, isiD, truD, isNonD, itemsD, mtyp, isRng, List.map_cons, List.map_nil, List.map, List.getElem?_cons_zero, List.getElem?_cons_succ, List.getElem?_nil, List.set_cons_zero, List.set_cons_succ, List.length_cons, List.length_nil, List.cons_append, List.nil_append, List.foldr_cons, List.foldr_nil, Option.some.injEq, exists_eq_left', exists_eq_left, exists_eq_right, and_true, true_and, Nat.zero_add, Nat.reduceAdd, Nat.reduceLT, Nat.lt_add_one, Bool.true_eq_false, Bool.false_eq_true, if_true, if_false, DV.bl.injEq, DV.int.injEq, DV.str.injEq, DV.lst.injEq, DV.tup.injEq, DV.loc.injEq, at0, at1, at2, cut1, O.binAI, O.binAS, O.binAT, O.binAL, O.binS, O.binM, O.binML, O.binF, O.binR, O.binP, O.cmpEq, O.cmpNe, O.cmpIsN, O.cmpNotN, O.cmpLt, O.cmpLtS, O.cmpLe, O.cmpGt, O.cmpGe, O.cmpInL, O.cmpInT, O.cmpInS, O.cmpNiL, O.cmpNiT, O.cmpNiS, O.subL, O.subT, O.subS, O.cutL, O.cutT, O.cutS, O.revL, O.revS, O.lenL, O.lenT, O.lenS, O.absI, O.intI, O.intB, O.listL, O.listT, O.listS, O.tupL, O.tupT, O.max2, O.min2, O.anyL, O.allL, O.sumL, O.metA, O.metP, O.metJ, O.newL, O.newC, O.newT, O.augAI, O.augSI, O.augAL, O.setLI, O.getLI, O.bindN, O.bindT, ↓O.var0, ↓O.var1, ↓O.var2, ↓O.var3, ↓O.var4, ↓O.var5, ↓O.var6, ↓O.var7, ↓O.var8, ↓O.var9, ↓O.var10, ↓O.var11, ↓O.var12, ↓O.var13, ↓O.var14, ↓O.var15, ↓O.var16, ↓O.var17, ↓O.var18, ↓O.var19, ↓O.var20, ↓O.var21, ↓O.var22, ↓O.var23, look_loc ha, look_loc hb]
    refine ⟨.inl ⟨by omega, by omega⟩, _, 0, hb, idx_some (by decide) (by simp), ?_⟩
    rw [rdSs]
    simp only [rdS, rdT, rdE, rdA, rdI, rdO, rdW, look_non, look_bl, look_int, look_str, look_tup, look_lst, look_dic, look_dit, look_ins, look_scr, isiD, truD, isNonD, itemsD, mtyp, isRng, List.map_cons, List.map_nil, List.map, List.getElem?_cons_zero, List.getElem?_cons_succ, List.getElem?_nil, List.set_cons_zero, List.set_cons_succ, List.length_cons, List.length_nil, List.cons_append, List.nil_append, List.foldr_cons, List.foldr_nil, Option.some.injEq, exists_eq_left', exists_eq_left, exists_eq_right, and_true, true_and, Nat.zero_add, Nat.reduceAdd, Nat.reduceLT, Nat.lt_add_one, Bool.true_eq_false, Bool.false_eq_true, if_true, if_false, DV.bl.injEq, DV.int.injEq, DV.str.injEq, DV.lst.injEq, DV.tup.injEq, DV.loc.injEq, at0, at1, at2, cut1, O.binAI, O.binAS, O.binAT, O.binAL, O.binS, O.binM, O.binML, O.binF, O.binR, O.binP, O.cmpEq, O.cmpNe, O.cmpIsN, O.cmpNotN, O.cmpLt, O.cmpLtS, O.cmpLe, O.cmpGt, O.cmpGe, O.cmpInL, O.cmpInT, O.cmpInS, O.cmpNiL, O.cmpNiT, O.cmpNiS, O.subL, O.subT, O.subS, O.cutL, O.cutT, O.cutS, O.revL, O.revS, O.lenL, O.lenT, O.lenS, O.absI, O.intI, O.intB, O.listL, O.listT, O.listS, O.tupL, O.tupT, O.max2, O.min2, O.anyL, O.allL, O.sumL, O.metA, O.metP, O.metJ, O.newL, O.newC, O.newT, O.augAI, O.augSI, O.augAL, O.setLI, O.getLI, O.bindN, O.bindT, ↓O.var0, ↓O.var1, ↓O.var2, ↓O.var3, ↓O.var4, ↓O.var5, ↓O.var6, ↓O.var7, ↓O.var8, ↓O.var9, ↓O.var10, ↓O.var11, ↓O.var12, ↓O.var13, ↓O.var14, ↓O.var15, ↓O.var16, ↓O.var17, ↓O.var18, ↓O.var19, ↓O.var20, ↓O.var21, ↓O.var22, ↓O.var23]
    refine hk _ b _ (fm0 _ hn) (fm1 _ hn) ?_
    exact hs.putb (i.fdiv n :: is)
theorem draw1 {a b0 b : Nat} {j n : Int} {m0 m : Mu} {k : Post} {e : XPost} (hj : j < 2000000) (hn : 0 < n) (hn2 : n < 1000000) (hs : Drawn m0 m a b0 b j) (hk : ∀ r b' m', 0 ≤ r → r < n → Drawn m0 m' a b0 b' j → k (.int r) m') :
    rdSs G0 B_law_draw_t1 (DF k e) [some (.loc a), some (.int n), none, none, none] m := by
  obtain ⟨⟨hab, h0, ⟨ks, hks, ha⟩, is, hb⟩, hf, hc⟩ := id hs
  rw [B_law_draw_t1, rdSs]
  simp only [rdS]
  refine ⟨is.length + 1, whlW_inv (fun nn r m' => r = [some (.loc a), some (.int n), none, none, none] ∧ ∃ (b' : Nat) (is' : List Int), is'.length = nn ∧ Drawn m0 m' a b0 b' j ∧ m' b' = some (.lst (is'.map .int))) ?_ (Nat.lt_succ_self _) ⟨rfl, b, is, rfl, hs, hb⟩⟩
  rintro nn r m' ⟨rfl, b', is', rfl, hd, hb'⟩ K hK
  obtain ⟨⟨hab', _, ⟨ks', hks', ha'⟩, _⟩, hf', hc'⟩ := id hd
  simp only [rdS, rdT, rdE, rdA, rdI, rdO, rdW, look_non, look_bl, look_int, look_str, look_tup, look_lst, look_dic, look_dit, look_ins, look_scr, isiD, truD, isNonD, itemsD, mtyp, isRng, List.map_cons, List.map_nil, List.map, List.getElem?_cons_zero, List.getElem?_cons_succ, List.getElem?_nil, List.set_cons_zero, List.set_cons_succ, List.length_cons, List.length_nil, List.cons_append, List.nil_append, List.foldr_cons, List.foldr_nil, Option.some.injEq, exists_eq_left', exists_eq_left, exists_eq_right, and_true, true_and, Nat.zero_add, Nat.reduceAdd, Nat.reduceLT, Nat.lt_add_one, Bool.true_eq_false, Bool.false_eq_true, if_true, if_false, DV.bl.injEq, DV.int.injEq, DV.str.injEq, DV.lst.injEq, DV.tup.injEq, DV.loc.injEq, at0, at1, at2, cut1, O.binAI, O.binAS, O.binAT, O.binAL, O.binS, O.binM, O.binML, O.binF, O.binR, O.binP, O.cmpEq, O.cmpNe, O.cmpIsN, O.cmpNotN, O.cmpLt, O.cmpLtS, O.cmpLe, O.cmpGt, O.cmpGe, O.cmpInL, O.cmpInT, O.cmpInS, O.cmpNiL, O.cmpNiT, O.cmpNiS, O.subL, O.subT, O.subS, O.cutL, O.cutT, O.cutS, O.revL, O.revS, O.lenL, O.lenT, O.lenS, O.absI, O.intI, O.intB, O.listL, O.listT, O.listS, O.tupL, O.tupT, O.max2, O.min2, O.anyL, O.allL, O.sumL, O.metA, O.metP, O.metJ, O.newL, O.newC, O.newT, O.augAI, O.augSI, O.augAL, O.setLI, O.getLI, O.bindN, O.bindT, ↓O.var0, ↓O.var1, ↓O.var2, ↓O.var3, ↓O.var4, ↓O.var5, ↓O.var6, ↓O.var7, ↓O.var8, ↓O.var9, ↓O.var10, ↓O.var11, ↓O.var12, ↓O.var13, ↓O.var14, ↓O.var15, ↓O.var16, ↓O.var17, ↓O.var18, ↓O.var19, ↓O.var20, ↓O.var21, ↓O.var22, ↓O.var23, look_loc ha', look_loc hb']
  refine ⟨by decide, ⟨by unfold plain; exact plains_ints _, rfl, by unfold depth; rw [depths_ints]; decide, by decide⟩, ?_⟩
  cases is' with
  | nil =>
    rw [if_neg (by simp [eqv, eqvs])]
    exact draw2 hj hn hn2 hd hk
  | cons i is' =>
    rw [if_pos (by simp [eqv, eqvs])]
    simp only [rdS, rdT, rdE, rdA, rdI, rdO, rdW, look_non, look_bl, look_int, look_str, look_tup, look_lst, look_dic, look_dit, look_ins, look_scr, isiD, truD, isNonD, itemsD, mtyp, isRng, List.map_cons, List.map_nil, List.map, List.getElem?_cons_zero, List.getElem?_cons_succ, List.getElem?_nil, List.set_cons_zero, List.set_cons_succ, List.length_cons, List.length_nil, List.cons_append, List.nil_append, List.foldr_cons, List.foldr_nil, Option.some.injEq, exists_eq_left', exists_eq_left, exists_eq_right, and_true, true_and, Nat.zero_add, Nat.reduceAdd, Nat.reduceLT, Nat.lt_add_one, Bool.true_eq_false, Bool.false_eq_true, if_true, if_false, DV.bl.injEq, DV.int.injEq, DV.str.injEq, DV.lst.injEq, DV.tup.injEq, DV.loc.injEq, at0, at1, at2, cut1, O.binAI, O.binAS, O.binAT, O.binAL, O.binS, O.binM, O.binML, O.binF, O.binR, O.binP, O.cmpEq, O.cmpNe, O.cmpIsN, O.cmpNotN, O.cmpLt, O.cmpLtS, O.cmpLe, O.cmpGt, O.cmpGe, O.cmpInL, O.cmpInT, O.cmpInS, O.cmpNiL, O.cmpNiT, O.cmpNiS, O.subL, O.subT, O.subS, O.cutL, O.cutT, O.cutS, O.revL, O.revS, O.lenL, O.lenT, O.lenS, O.absI, O.intI, O.intB, O.listL, O.listT, O.listS, O.tupL, O.tupT, O.max2, O.min2, O.anyL, O.allL, O.sumL, O.metA, O.metP, O.metJ, O.newL, O.newC, O.newT, O.augAI, O.augSI, O.augAL, O.setLI, O.getLI, O.bindN, O.bindT, ↓O.var0, ↓O.var1, ↓O.var2, ↓O.var3, ↓O.var4, ↓O.var5, ↓O.var6, ↓O.var7, ↓O.var8, ↓O.var9, ↓O.var10, ↓O.var11, ↓O.var12, ↓O.var13, ↓O.var14, ↓O.var15, ↓O.var16, ↓O.var17, ↓O.var18, ↓O.var19, ↓O.var20, ↓O.var21, ↓O.var22, ↓O.var23]
    refine ⟨⟨rfl, rfl, by simp [depth], by decide⟩, ?_⟩
    by_cases hi : i = 0
    · refine iteT (by simp [eqv, hi]) ?_
      rw [rdSs]
      simp only [rdS, rdT, rdE, rdA, rdI, rdO, rdW, look_non, look_bl, look_int, look_str, look_tup, look_lst, look_dic, look_dit, look_ins, look_scr, isiD, truD, isNonD, itemsD, mtyp, isRng, List.map_cons, List.map_nil, List.map, List.getElem?_cons_zero, List.getElem?_cons_succ, List.getElem?_nil, List.set_cons_zero, List.set_cons_succ, List.length_cons, List.length_nil, List.cons_append, List.nil_append, List.foldr_cons, List.foldr_nil, Option.some.injEq, exists_eq_left', exists_eq_left, exists_eq_right, and_true, true_and, Nat.zero_add, Nat.reduceAdd, Nat.reduceLT, Nat.lt_add_one, Bool.true_eq_false, Bool.false_eq_true, if_true, if_false, DV.bl.injEq, DV.int.injEq, DV.str.injEq, DV.lst.injEq, DV.tup.injEq, DV.loc.injEq, at0, at1, at2, cut1, O.binAI, O.binAS, O.binAT, O.binAL, O.binS, O.binM, O.binML, O.binF, O.binR, O.binP, O.cmpEq, O.cmpNe, O.cmpIsN, O.cmpNotN, O.cmpLt, O.cmpLtS, O.cmpLe, O.cmpGt, O.cmpGe, O.cmpInL, O.cmpInT, O.cmpInS, O.cmpNiL, O.cmpNiT, O.cmpNiS, O.subL, O.subT, O.subS, O.cutL, O.cutT, O.cutS, O.revL, O.revS, O.lenL, O.lenT, O.lenS, O.absI, O.intI, O.intB, O.listL, O.listT, O.listS, O.tupL, O.tupT, O.max2, O.min2, O.anyL, O.allL, O.sumL, O.metA, O.metP, O.metJ, O.newL, O.newC, O.newT, O.augAI, O.augSI, O.augAL, O.setLI, O.getLI, O.bindN, O.bindT, ↓O.var0, ↓O.var1, ↓O.var2, ↓O.var3, ↓O.var4, ↓O.var5, ↓O.var6, ↓O.var7, ↓O.var8, ↓O.var9, ↓O.var10, ↓O.var11, ↓O.var12, ↓O.var13, ↓O.var14, ↓O.var15, ↓O.var16, ↓O.var17, ↓O.var18, ↓O.var19, ↓O.var20, ↓O.var21, ↓O.var22, ↓O.var23, look_loc ha', look_loc hb']
      intro c hc0
      refine ⟨[.loc b', .lst (ks'.map .int), .int j], 0, ?_, rfl, ?_⟩
      · rw [put_ne (fun e => hd.1.ne (by rw [e]; exact hc0))]
        exact ha'
      · rw [rdSs]
        refine hK is'.length _ _ (by simp) ⟨rfl, c, is', rfl, ?_, ?_⟩
        · exact hd.new hc0 is' ks' hks'
        · have hca : c ≠ a := fun e => hd.1.ne (by rw [← e]; exact hc0)
          rw [put_ne hca]
          exact put_same
    · refine iteF (by simp [eqv, hi]) ?_
      exact draw2 hj hn hn2 hd hk
theorem d_draw : ∀ ds m k e, drawS ds m k e → rdF G0 5 B_law_draw ds m k e := by
  rintro ds m k e ⟨a, b, j, n, rfl, ⟨hab, h0, ⟨ks, hks, ha⟩, is, hb⟩, hj, hn, hn2, hk⟩
  simp only [rdF, B_law_draw, List.map_cons, List.map_nil, List.length_cons, List.length_nil, Nat.zero_add, Nat.reduceAdd, Nat.reduceSub, List.replicate_succ, List.replicate_zero, List.cons_append, List.nil_append]
  rw [rdSs]
  simp only [rdS, rdT, rdE, rdA, rdI, rdO, rdW, look_non, look_bl, look_int, look_str, look_tup, look_lst, look_dic, look_dit, look_ins, look_scr, isiD, truD, isNonD, itemsD, mtyp, isRng, List.map_cons, List.map_nil, List.map, List.getElem?_cons_zero, List.getElem?_cons_succ, List.getElem?_nil, List.set_cons_zero, List.set_cons_succ, List.length_cons, List.length_nil, List.cons_append, List.nil_append, List.foldr_cons, List.foldr_nil, Option.some.injEq, exists_eq_left', exists_eq_left, exists_eq_right, and_true, true_and, Nat.zero_add, Nat.reduceAdd, Nat.reduceLT, Nat.lt_add_one, Bool.true_eq_false, Bool.false_eq_true, if_true, if_false, DV.bl.injEq, DV.int.injEq, DV.str.injEq, DV.lst.injEq, DV.tup.injEq, DV.loc.injEq, at0, at1, at2, cut1, O.binAI, O.binAS, O.binAT, O.binAL, O.binS, O.binM, O.binML, O.binF, O.binR, O.binP, O.cmpEq, O.cmpNe, O.cmpIsN, O.cmpNotN, O.cmpLt, O.cmpLtS, O.cmpLe, O.cmpGt, O.cmpGe, O.cmpInL, O.cmpInT, O.cmpInS, O.cmpNiL, O.cmpNiT, O.cmpNiS, O.subL, O.subT, O.subS, O.cutL, O.cutT, O.cutS, O.revL, O.revS, O.lenL, O.lenT, O.lenS, O.absI, O.intI, O.intB, O.listL, O.listT, O.listS, O.tupL, O.tupT, O.max2, O.min2, O.anyL, O.allL, O.sumL, O.metA, O.metP, O.metJ, O.newL, O.newC, O.newT, O.augAI, O.augSI, O.augAL, O.setLI, O.getLI, O.bindN, O.bindT, ↓O.var0, ↓O.var1, ↓O.var2, ↓O.var3, ↓O.var4, ↓O.var5, ↓O.var6, ↓O.var7, ↓O.var8, ↓O.var9, ↓O.var10, ↓O.var11, ↓O.var12, ↓O.var13, ↓O.var14, ↓O.var15, ↓O.var16, ↓O.var17, ↓O.var18, ↓O.var19, ↓O.var20, ↓O.var21, ↓O.var22, ↓O.var23, look_loc ha]
  refine ⟨by decide, [.loc b, .lst (ks.map .int), .int j], .int j, rfl, rfl, ?_⟩
  simp only [rdS, rdT, rdE, rdA, rdI, rdO, rdW, look_non, look_bl, look_int, look_str, look_tup, look_lst, look_dic, look_dit, look_ins, look_scr, isiD, truD, isNonD, itemsD, mtyp, isRng, List.map_cons, List.map_nil, List.map, List.getElem?_cons_zero, List.getElem?_cons_succ, List.getElem?_nil, List.set_cons_zero, List.set_cons_succ, List.length_cons, List.length_nil, List.cons_append, List.nil_append, List.foldr_cons, List.foldr_nil, Option.some.injEq, exists_eq_left', exists_eq_left, exists_eq_right, and_true, true_and, Nat.zero_add, Nat.reduceAdd, Nat.reduceLT, Nat.lt_add_one, Bool.true_eq_false, Bool.false_eq_true, if_true, if_false, DV.bl.injEq, DV.int.injEq, DV.str.injEq, DV.lst.injEq, DV.tup.injEq, DV.loc.injEq, at0, at1, at2, cut1, O.binAI, O.binAS, O.binAT, O.binAL, O.binS, O.binM, O.binML, O.binF, O.binR, O.binP, O.cmpEq, O.cmpNe, O.cmpIsN, O.cmpNotN, O.cmpLt, O.cmpLtS, O.cmpLe, O.cmpGt, O.cmpGe, O.cmpInL, O.cmpInT, O.cmpInS, O.cmpNiL, O.cmpNiT, O.cmpNiS, O.subL, O.subT, O.subS, O.cutL, O.cutT, O.cutS, O.revL, O.revS, O.lenL, O.lenT, O.lenS, O.absI, O.intI, O.intB, O.listL, O.listT, O.listS, O.tupL, O.tupT, O.max2, O.min2, O.anyL, O.allL, O.sumL, O.metA, O.metP, O.metJ, O.newL, O.newC, O.newT, O.augAI, O.augSI, O.augAL, O.setLI, O.getLI, O.bindN, O.bindT, ↓O.var0, ↓O.var1, ↓O.var2, ↓O.var3, ↓O.var4, ↓O.var5, ↓O.var6, ↓O.var7, ↓O.var8, ↓O.var9, ↓O.var10, ↓O.var11, ↓O.var12, ↓O.var13, ↓O.var14, ↓O.var15, ↓O.var16, ↓O.var17, ↓O.var18, ↓O.var19, ↓O.var20, ↓O.var21, ↓O.var22, ↓O.var23]
  refine ⟨[.loc b, .lst (ks.map .int), .int j], 2, ha, rfl, ?_⟩
  refine draw1 (j := j + 1) (b := b) (b0 := b) (m0 := m) (by omega) hn hn2 ⟨⟨hab, by omega, ⟨ks, hks, put_same⟩, is, by rw [put_ne (Ne.symm hab)]; exact hb⟩, .inl rfl, fun c h1 h2 h3 => put_ne h1⟩ hk
end K01

set_option linter.all false
set_option maxRecDepth 10000
namespace K01
open DL
def validS : PSp := fun ds Q _ => ∃ s : S, ds = [.str s] ∧ s.length ≤ LINE ∧ Q (.bl (validN s))
def signsS : PSp := fun ds Q _ => ds = [] ∧ Q (.str (txt4 ++ txt3))
def G : Nat → Option Fn
  | 0 => some (.pure validS)
  | 1 => some (.pure validS)
  | 2 => some (.pure validS)
  | 3 => some (.gen drawS)
  | 4 => some (.pure signsS)
  | 5 => some (.gen startS)
  | _ => none
theorem call0 {s : S} {m : Mu} {k : Post} {e : XPost} (hl : s.length ≤ LINE) (h : k (.bl (validN s)) m) : callD G 0 [.str s] m k e := ⟨s, rfl, hl, fun _ => rfl, h⟩
theorem call1 {s : S} {m : Mu} {k : Post} {e : XPost} (hl : s.length ≤ LINE) (h : k (.bl (validN s)) m) : callD G 1 [.str s] m k e := ⟨s, rfl, hl, fun _ => rfl, h⟩
theorem call2 {s : S} {m : Mu} {k : Post} {e : XPost} (hl : s.length ≤ LINE) (h : k (.bl (validN s)) m) : callD G 2 [.str s] m k e := ⟨s, rfl, hl, fun _ => rfl, h⟩
theorem call4 {m : Mu} {k : Post} {e : XPost} (h : k (.str (txt4 ++ txt3)) m) : callD G 4 [] m k e := ⟨rfl, fun _ => rfl, h⟩
theorem call3 {a b : Nat} {j n : Int} {m : Mu} {k : Post} {e : XPost} (hs : St m a b j) (hj : j < 1000000) (hn : 0 < n) (hn2 : n < 1000000)
    (h : ∀ r b' m', 0 ≤ r → r < n → Drawn m m' a b b' (j + 1) → k (.int r) m') : callD G 3 [.loc a, .int n] m k e := ⟨a, b, j, n, rfl, hs, hj, hn, hn2, h⟩
theorem call5 {ns : List Int} {m : Mu} {k : Post} {e : XPost} (hn : ns.length ≤ 100000)
    (h : ∀ a b m', St m' a b 0 → (∀ c, m c ≠ none → m' c = m c ∧ c ≠ a ∧ c ≠ b) → k (.loc a) m') : callD G 5 [.scr ns] m k e := ⟨ns, rfl, hn, h⟩
/-- the law's last part: the word -/
theorem law8 {v0 v1 v2 v3 v4 v7 : Option DV} {s : S} {m : Mu} {k : Post} {e : XPost} (hl : s.length ≤ 1000) (hk : ∀ m', k (.bl true) m') :
    rdSs G B_law_t8 (DF k e) [v0, v1, v2, v3, v4, some (.str s), none, v7] m := by
  have hl' : s.length ≤ LINE := Nat.le_trans hl (by decide)
  rw [B_law_t8, rdSs]
  simp only [rdS, rdT, rdE, rdA, rdI, rdO, rdW, look_non, look_bl, look_int, look_str, look_tup, look_lst, look_dic, look_dit, look_ins, look_scr, isiD, truD, isNonD, itemsD, mtyp, isRng, List.map_cons, List.map_nil, List.map, List.getElem?_cons_zero, List.getElem?_cons_succ, List.getElem?_nil, List.set_cons_zero, List.set_cons_succ, List.length_cons, List.length_nil, List.cons_append, List.nil_append, List.foldr_cons, List.foldr_nil, Option.some.injEq, exists_eq_left', exists_eq_left, exists_eq_right, and_true, true_and, Nat.zero_add, Nat.reduceAdd, Nat.reduceLT, Nat.lt_add_one, Bool.true_eq_false, Bool.false_eq_true, if_true, if_false, DV.bl.injEq, DV.int.injEq, DV.str.injEq, DV.lst.injEq, DV.tup.injEq, DV.loc.injEq, at0, at1, at2, cut1, O.binAI, O.binAS, O.binAT, O.binAL, O.binS, O.binM, O.binML, O.binF, O.binR, O.binP, O.cmpEq, O.cmpNe, O.cmpIsN, O.cmpNotN, O.cmpLt, O.cmpLtS, O.cmpLe, O.cmpGt, O.cmpGe, O.cmpInL, O.cmpInT, O.cmpInS, O.cmpNiL, O.cmpNiT, O.cmpNiS, O.subL, O.subT, O.subS, O.cutL, O.cutT, O.cutS, O.revL, O.revS, O.lenL, O.lenT, O.lenS, O.absI, O.intI, O.intB, O.listL, O.listT, O.listS, O.tupL, O.tupT, O.max2, O.min2, O.anyL, O.allL, O.sumL, O.metA, O.metP, O.metJ, O.newL, O.newC, O.newT, O.augAI, O.augSI, O.augAL, O.setLI, O.getLI, O.bindN, O.bindT, ↓O.var0, ↓O.var1, ↓O.var2, ↓O.var3, ↓O.var4, ↓O.var5, ↓O.var6, ↓O.var7, ↓O.var8, ↓O.var9, ↓O.var10, ↓O.var11, ↓O.var12, ↓O.var13, ↓O.var14, ↓O.var15, ↓O.var16, ↓O.var17, ↓O.var18, ↓O.var19, ↓O.var20, ↓O.var21, ↓O.var22, ↓O.var23]
  refine call2 hl' ?_
  rw [B_law_t9, rdSs]
  simp only [rdS, rdT, rdE, rdA, rdI, rdO, rdW, look_non, look_bl, look_int, look_str, look_tup, look_lst, look_dic, look_dit, look_ins, look_scr, isiD, truD, isNonD, itemsD, mtyp, isRng, List.map_cons, List.map_nil, List.map, List.getElem?_cons_zero, List.getElem?_cons_succ, List.getElem?_nil, List.set_cons_zero, List.set_cons_succ, List.length_cons, List.length_nil, List.cons_append, List.nil_append, List.foldr_cons, List.foldr_nil, Option.some.injEq, exists_eq_left', exists_eq_left, exists_eq_right, and_true, true_and, Nat.zero_add, Nat.reduceAdd, Nat.reduceLT, Nat.lt_add_one, Bool.true_eq_false, Bool.false_eq_true, if_true, if_false, DV.bl.injEq, DV.int.injEq, DV.str.injEq, DV.lst.injEq, DV.tup.injEq, DV.loc.injEq, at0, at1, at2, cut1, O.binAI, O.binAS, O.binAT, O.binAL, O.binS, O.binM, O.binML, O.binF, O.binR, O.binP, O.cmpEq, O.cmpNe, O.cmpIsN, O.cmpNotN, O.cmpLt, O.cmpLtS, O.cmpLe, O.cmpGt, O.cmpGe, O.cmpInL, O.cmpInT, O.cmpInS, O.cmpNiL, O.cmpNiT, O.cmpNiS, O.subL, O.subT, O.subS, O.cutL, O.cutT, O.cutS, O.revL, O.revS, O.lenL, O.lenT, O.lenS, O.absI, O.intI, O.intB, O.listL, O.listT, O.listS, O.tupL, O.tupT, O.max2, O.min2, O.anyL, O.allL, O.sumL, O.metA, O.metP, O.metJ, O.newL, O.newC, O.newT, O.augAI, O.augSI, O.augAL, O.setLI, O.getLI, O.bindN, O.bindT, ↓O.var0, ↓O.var1, ↓O.var2, ↓O.var3, ↓O.var4, ↓O.var5, ↓O.var6, ↓O.var7, ↓O.var8, ↓O.var9, ↓O.var10, ↓O.var11, ↓O.var12, ↓O.var13, ↓O.var14, ↓O.var15, ↓O.var16, ↓O.var17, ↓O.var18, ↓O.var19, ↓O.var20, ↓O.var21, ↓O.var22, ↓O.var23]
  refine iteF (by decide) ?_
  refine call1 hl' ?_
  simp only [rdS, rdT, rdE, rdA, rdI, rdO, rdW, look_non, look_bl, look_int, look_str, look_tup, look_lst, look_dic, look_dit, look_ins, look_scr, isiD, truD, isNonD, itemsD, mtyp, isRng, List.map_cons, List.map_nil, List.map, List.getElem?_cons_zero, List.getElem?_cons_succ, List.getElem?_nil, List.set_cons_zero, List.set_cons_succ, List.length_cons, List.length_nil, List.cons_append, List.nil_append, List.foldr_cons, List.foldr_nil, Option.some.injEq, exists_eq_left', exists_eq_left, exists_eq_right, and_true, true_and, Nat.zero_add, Nat.reduceAdd, Nat.reduceLT, Nat.lt_add_one, Bool.true_eq_false, Bool.false_eq_true, if_true, if_false, DV.bl.injEq, DV.int.injEq, DV.str.injEq, DV.lst.injEq, DV.tup.injEq, DV.loc.injEq, at0, at1, at2, cut1, O.binAI, O.binAS, O.binAT, O.binAL, O.binS, O.binM, O.binML, O.binF, O.binR, O.binP, O.cmpEq, O.cmpNe, O.cmpIsN, O.cmpNotN, O.cmpLt, O.cmpLtS, O.cmpLe, O.cmpGt, O.cmpGe, O.cmpInL, O.cmpInT, O.cmpInS, O.cmpNiL, O.cmpNiT, O.cmpNiS, O.subL, O.subT, O.subS, O.cutL, O.cutT, O.cutS, O.revL, O.revS, O.lenL, O.lenT, O.lenS, O.absI, O.intI, O.intB, O.listL, O.listT, O.listS, O.tupL, O.tupT, O.max2, O.min2, O.anyL, O.allL, O.sumL, O.metA, O.metP, O.metJ, O.newL, O.newC, O.newT, O.augAI, O.augSI, O.augAL, O.setLI, O.getLI, O.bindN, O.bindT, ↓O.var0, ↓O.var1, ↓O.var2, ↓O.var3, ↓O.var4, ↓O.var5, ↓O.var6, ↓O.var7, ↓O.var8, ↓O.var9, ↓O.var10, ↓O.var11, ↓O.var12, ↓O.var13, ↓O.var14, ↓O.var15, ↓O.var16, ↓O.var17, ↓O.var18, ↓O.var19, ↓O.var20, ↓O.var21, ↓O.var22, ↓O.var23]
  refine ⟨⟨rfl, rfl, by simp [depth], by simp [depth]⟩, ?_⟩
  refine iteF (by simp [eqv]) ?_
  simp only [rdSs, B_law_t10]
  simp only [rdS, rdT, rdE, rdA, rdI, rdO, rdW, look_non, look_bl, look_int, look_str, look_tup, look_lst, look_dic, look_dit, look_ins, look_scr, isiD, truD, isNonD, itemsD, mtyp, isRng, List.map_cons, List.map_nil, List.map, List.getElem?_cons_zero, List.getElem?_cons_succ, List.getElem?_nil, List.set_cons_zero, List.set_cons_succ, List.length_cons, List.length_nil, List.cons_append, List.nil_append, List.foldr_cons, List.foldr_nil, Option.some.injEq, exists_eq_left', exists_eq_left, exists_eq_right, and_true, true_and, Nat.zero_add, Nat.reduceAdd, Nat.reduceLT, Nat.lt_add_one, Bool.true_eq_false, Bool.false_eq_true, if_true, if_false, DV.bl.injEq, DV.int.injEq, DV.str.injEq, DV.lst.injEq, DV.tup.injEq, DV.loc.injEq, at0, at1, at2, cut1, O.binAI, O.binAS, O.binAT, O.binAL, O.binS, O.binM, O.binML, O.binF, O.binR, O.binP, O.cmpEq, O.cmpNe, O.cmpIsN, O.cmpNotN, O.cmpLt, O.cmpLtS, O.cmpLe, O.cmpGt, O.cmpGe, O.cmpInL, O.cmpInT, O.cmpInS, O.cmpNiL, O.cmpNiT, O.cmpNiS, O.subL, O.subT, O.subS, O.cutL, O.cutT, O.cutS, O.revL, O.revS, O.lenL, O.lenT, O.lenS, O.absI, O.intI, O.intB, O.listL, O.listT, O.listS, O.tupL, O.tupT, O.max2, O.min2, O.anyL, O.allL, O.sumL, O.metA, O.metP, O.metJ, O.newL, O.newC, O.newT, O.augAI, O.augSI, O.augAL, O.setLI, O.getLI, O.bindN, O.bindT, ↓O.var0, ↓O.var1, ↓O.var2, ↓O.var3, ↓O.var4, ↓O.var5, ↓O.var6, ↓O.var7, ↓O.var8, ↓O.var9, ↓O.var10, ↓O.var11, ↓O.var12, ↓O.var13, ↓O.var14, ↓O.var15, ↓O.var16, ↓O.var17, ↓O.var18, ↓O.var19, ↓O.var20, ↓O.var21, ↓O.var22, ↓O.var23]
  have hr : s.reverse.length ≤ LINE := by rw [List.length_reverse]; exact hl'
  refine ⟨hl', call0 hr ⟨hl', call1 hr ?_⟩⟩
  simp only [rdS, rdT, rdE, rdA, rdI, rdO, rdW, look_non, look_bl, look_int, look_str, look_tup, look_lst, look_dic, look_dit, look_ins, look_scr, isiD, truD, isNonD, itemsD, mtyp, isRng, List.map_cons, List.map_nil, List.map, List.getElem?_cons_zero, List.getElem?_cons_succ, List.getElem?_nil, List.set_cons_zero, List.set_cons_succ, List.length_cons, List.length_nil, List.cons_append, List.nil_append, List.foldr_cons, List.foldr_nil, Option.some.injEq, exists_eq_left', exists_eq_left, exists_eq_right, and_true, true_and, Nat.zero_add, Nat.reduceAdd, Nat.reduceLT, Nat.lt_add_one, Bool.true_eq_false, Bool.false_eq_true, if_true, if_false, DV.bl.injEq, DV.int.injEq, DV.str.injEq, DV.lst.injEq, DV.tup.injEq, DV.loc.injEq, at0, at1, at2, cut1, O.binAI, O.binAS, O.binAT, O.binAL, O.binS, O.binM, O.binML, O.binF, O.binR, O.binP, O.cmpEq, O.cmpNe, O.cmpIsN, O.cmpNotN, O.cmpLt, O.cmpLtS, O.cmpLe, O.cmpGt, O.cmpGe, O.cmpInL, O.cmpInT, O.cmpInS, O.cmpNiL, O.cmpNiT, O.cmpNiS, O.subL, O.subT, O.subS, O.cutL, O.cutT, O.cutS, O.revL, O.revS, O.lenL, O.lenT, O.lenS, O.absI, O.intI, O.intB, O.listL, O.listT, O.listS, O.tupL, O.tupT, O.max2, O.min2, O.anyL, O.allL, O.sumL, O.metA, O.metP, O.metJ, O.newL, O.newC, O.newT, O.augAI, O.augSI, O.augAL, O.setLI, O.getLI, O.bindN, O.bindT, ↓O.var0, ↓O.var1, ↓O.var2, ↓O.var3, ↓O.var4, ↓O.var5, ↓O.var6, ↓O.var7, ↓O.var8, ↓O.var9, ↓O.var10, ↓O.var11, ↓O.var12, ↓O.var13, ↓O.var14, ↓O.var15, ↓O.var16, ↓O.var17, ↓O.var18, ↓O.var19, ↓O.var20, ↓O.var21, ↓O.var22, ↓O.var23]
  refine ⟨⟨rfl, rfl, by simp [depth], by simp [depth]⟩, ?_⟩
  simp only [eqv, beq_self_eq_true]
  exact hk _
theorem law7 {v0 v2 v3 v4 v7 : Option DV} {s : S} {a b : Nat} {j : Int} {m : Mu} {k : Post} {e : XPost} (hl : s.length ≤ 900) (hs : St m a b j) (hj : j < 100000) (hk : ∀ m', k (.bl true) m') :
    rdSs G B_law_t7 (DF k e) [v0, some (.loc a), v2, v3, v4, some (.str s), none, v7] m := by
  rw [B_law_t7, rdSs]
  simp only [rdS, rdT, rdE, rdA, rdI, rdO, rdW, look_non, look_bl, look_int, look_str, look_tup, look_lst, look_dic, look_dit, look_ins, look_scr, isiD, truD, isNonD, itemsD, mtyp, isRng, List.map_cons, List.map_nil, List.map, List.getElem?_cons_zero, List.getElem?_cons_succ, List.getElem?_nil, List.set_cons_zero, List.set_cons_succ, List.length_cons, List.length_nil, List.cons_append, List.nil_append, List.foldr_cons, List.foldr_nil, Option.some.injEq, exists_eq_left', exists_eq_left, exists_eq_right, and_true, true_and, Nat.zero_add, Nat.reduceAdd, Nat.reduceLT, Nat.lt_add_one, Bool.true_eq_false, Bool.false_eq_true, if_true, if_false, DV.bl.injEq, DV.int.injEq, DV.str.injEq, DV.lst.injEq, DV.tup.injEq, DV.loc.injEq, at0, at1, at2, cut1, O.binAI, O.binAS, O.binAT, O.binAL, O.binS, O.binM, O.binML, O.binF, O.binR, O.binP, O.cmpEq, O.cmpNe, O.cmpIsN, O.cmpNotN, O.cmpLt, O.cmpLtS, O.cmpLe, O.cmpGt, O.cmpGe, O.cmpInL, O.cmpInT, O.cmpInS, O.cmpNiL, O.cmpNiT, O.cmpNiS, O.subL, O.subT, O.subS, O.cutL, O.cutT, O.cutS, O.revL, O.revS, O.lenL, O.lenT, O.lenS, O.absI, O.intI, O.intB, O.listL, O.listT, O.listS, O.tupL, O.tupT, O.max2, O.min2, O.anyL, O.allL, O.sumL, O.metA, O.metP, O.metJ, O.newL, O.newC, O.newT, O.augAI, O.augSI, O.augAL, O.setLI, O.getLI, O.bindN, O.bindT, ↓O.var0, ↓O.var1, ↓O.var2, ↓O.var3, ↓O.var4, ↓O.var5, ↓O.var6, ↓O.var7, ↓O.var8, ↓O.var9, ↓O.var10, ↓O.var11, ↓O.var12, ↓O.var13, ↓O.var14, ↓O.var15, ↓O.var16, ↓O.var17, ↓O.var18, ↓O.var19, ↓O.var20, ↓O.var21, ↓O.var22, ↓O.var23]
  refine call3 hs (by omega) (by decide) (by decide) fun r b' m' h0 h1 hd => ?_
  simp only [rdS, rdT, rdE, rdA, rdI, rdO, rdW, look_non, look_bl, look_int, look_str, look_tup, look_lst, look_dic, look_dit, look_ins, look_scr, isiD, truD, isNonD, itemsD, mtyp, isRng, List.map_cons, List.map_nil, List.map, List.getElem?_cons_zero, List.getElem?_cons_succ, List.getElem?_nil, List.set_cons_zero, List.set_cons_succ, List.length_cons, List.length_nil, List.cons_append, List.nil_append, List.foldr_cons, List.foldr_nil, Option.some.injEq, exists_eq_left', exists_eq_left, exists_eq_right, and_true, true_and, Nat.zero_add, Nat.reduceAdd, Nat.reduceLT, Nat.lt_add_one, Bool.true_eq_false, Bool.false_eq_true, if_true, if_false, DV.bl.injEq, DV.int.injEq, DV.str.injEq, DV.lst.injEq, DV.tup.injEq, DV.loc.injEq, at0, at1, at2, cut1, O.binAI, O.binAS, O.binAT, O.binAL, O.binS, O.binM, O.binML, O.binF, O.binR, O.binP, O.cmpEq, O.cmpNe, O.cmpIsN, O.cmpNotN, O.cmpLt, O.cmpLtS, O.cmpLe, O.cmpGt, O.cmpGe, O.cmpInL, O.cmpInT, O.cmpInS, O.cmpNiL, O.cmpNiT, O.cmpNiS, O.subL, O.subT, O.subS, O.cutL, O.cutT, O.cutS, O.revL, O.revS, O.lenL, O.lenT, O.lenS, O.absI, O.intI, O.intB, O.listL, O.listT, O.listS, O.tupL, O.tupT, O.max2, O.min2, O.anyL, O.allL, O.sumL, O.metA, O.metP, O.metJ, O.newL, O.newC, O.newT, O.augAI, O.augSI, O.augAL, O.setLI, O.getLI, O.bindN, O.bindT, ↓O.var0, ↓O.var1, ↓O.var2, ↓O.var3, ↓O.var4, ↓O.var5, ↓O.var6, ↓O.var7, ↓O.var8, ↓O.var9, ↓O.var10, ↓O.var11, ↓O.var12, ↓O.var13, ↓O.var14, ↓O.var15, ↓O.var16, ↓O.var17, ↓O.var18, ↓O.var19, ↓O.var20, ↓O.var21, ↓O.var22, ↓O.var23]
  refine ⟨⟨rfl, rfl, by simp [depth], by decide⟩, iteJ (fun _ => ?_) (fun _ => ?_)⟩
  · rw [rdSs]
    simp only [rdS, rdT, rdE, rdA, rdI, rdO, rdW, look_non, look_bl, look_int, look_str, look_tup, look_lst, look_dic, look_dit, look_ins, look_scr, isiD, truD, isNonD, itemsD, mtyp, isRng, List.map_cons, List.map_nil, List.map, List.getElem?_cons_zero, List.getElem?_cons_succ, List.getElem?_nil, List.set_cons_zero, List.set_cons_succ, List.length_cons, List.length_nil, List.cons_append, List.nil_append, List.foldr_cons, List.foldr_nil, Option.some.injEq, exists_eq_left', exists_eq_left, exists_eq_right, and_true, true_and, Nat.zero_add, Nat.reduceAdd, Nat.reduceLT, Nat.lt_add_one, Bool.true_eq_false, Bool.false_eq_true, if_true, if_false, DV.bl.injEq, DV.int.injEq, DV.str.injEq, DV.lst.injEq, DV.tup.injEq, DV.loc.injEq, at0, at1, at2, cut1, O.binAI, O.binAS, O.binAT, O.binAL, O.binS, O.binM, O.binML, O.binF, O.binR, O.binP, O.cmpEq, O.cmpNe, O.cmpIsN, O.cmpNotN, O.cmpLt, O.cmpLtS, O.cmpLe, O.cmpGt, O.cmpGe, O.cmpInL, O.cmpInT, O.cmpInS, O.cmpNiL, O.cmpNiT, O.cmpNiS, O.subL, O.subT, O.subS, O.cutL, O.cutT, O.cutS, O.revL, O.revS, O.lenL, O.lenT, O.lenS, O.absI, O.intI, O.intB, O.listL, O.listT, O.listS, O.tupL, O.tupT, O.max2, O.min2, O.anyL, O.allL, O.sumL, O.metA, O.metP, O.metJ, O.newL, O.newC, O.newT, O.augAI, O.augSI, O.augAL, O.setLI, O.getLI, O.bindN, O.bindT, ↓O.var0, ↓O.var1, ↓O.var2, ↓O.var3, ↓O.var4, ↓O.var5, ↓O.var6, ↓O.var7, ↓O.var8, ↓O.var9, ↓O.var10, ↓O.var11, ↓O.var12, ↓O.var13, ↓O.var14, ↓O.var15, ↓O.var16, ↓O.var17, ↓O.var18, ↓O.var19, ↓O.var20, ↓O.var21, ↓O.var22, ↓O.var23]
    have l1 : s.length + 1 ≤ LINE := Nat.le_trans (Nat.succ_le_succ hl) (by decide)
    refine ⟨l1, l1, by rw [Nat.add_comm]; exact l1, by rw [Nat.add_comm]; exact l1, by decide, ?_⟩
    refine call3 hd.1 (by omega) (by decide) (by decide) fun r2 b2 m2 h2 h3 hd2 => ?_
    obtain ⟨v, hv, hin⟩ := at_in (xs := [DV.str (s ++ [10]), DV.str (s ++ [32]), DV.str (32 :: s), DV.str (10 :: s)]) h2 (by simpa using h3)
    refine ⟨v, hv, ?_⟩
    simp only [rdSs]
    have hx : ∃ s' : S, s'.length ≤ 1000 ∧ v = .str s' := by
      simp only [List.mem_cons, List.not_mem_nil, or_false] at hin
      rcases hin with rfl | rfl | rfl | rfl <;> exact ⟨_, by simp; omega, rfl⟩
    obtain ⟨s', hs', rfl⟩ := hx
    exact law8 hs' hk
  · rw [rdSs]
    exact law8 (Nat.le_trans hl (by decide)) hk
theorem strs_chars : ∀ cs : S, strs? (cs.map fun c => DV.str [c]) = some (cs.map fun c => [c])
  | [] => rfl
  | c :: r => by simp only [List.map_cons, strs?, strs_chars r, Option.map_some]
theorem sjoin_chars : ∀ cs : S, sjoin [] (cs.map fun c => [c]) = cs
  | [] => rfl
  | [c] => rfl
  | c :: d :: r => by
    have ih := sjoin_chars (d :: r)
    simp only [List.map_cons] at ih
    simp only [List.map_cons, sjoin, ih, List.append_nil, List.cons_append, List.nil_append]
theorem sum_chars : ∀ cs : S, ((cs.map fun c => [c]).map List.length).sum = cs.length
  | [] => rfl
  | c :: r => by
    have ih := sum_chars r
    simp only [List.map_cons, List.sum_cons, ih, List.length_cons, List.length_nil]
    omega
theorem law6 {v0 v2 v3 v5 v7 : Option DV} {cs : S} {a b c : Nat} {j : Int} {m : Mu} {k : Post} {e : XPost} (hl : cs.length ≤ 900) (hs : St m a b j) (hj : j < 100000) (hc : m c = some (.lst (cs.map fun c => .str [c]))) (hk : ∀ m', k (.bl true) m') :
    rdSs G B_law_t6 (DF k e) [v0, some (.loc a), v2, v3, some (.loc c), v5, none, v7] m := by
  rw [B_law_t6, rdSs]
  simp only [rdS, rdT, rdE, rdA, rdI, rdO, rdW, look_non, look_bl, look_int, look_str, look_tup, look_lst, look_dic, look_dit, look_ins, look_scr, isiD, truD, isNonD, itemsD, mtyp, isRng, List.map_cons, List.map_nil, List.map, List.getElem?_cons_zero, List.getElem?_cons_succ, List.getElem?_nil, List.set_cons_zero, List.set_cons_succ, List.length_cons, List.length_nil, List.cons_append, List.nil_append, List.foldr_cons, List.foldr_nil, Option.some.injEq, exists_eq_left', exists_eq_left, exists_eq_right, and_true, true_and, Nat.zero_add, Nat.reduceAdd, Nat.reduceLT, Nat.lt_add_one, Bool.true_eq_false, Bool.false_eq_true, if_true, if_false, DV.bl.injEq, DV.int.injEq, DV.str.injEq, DV.lst.injEq, DV.tup.injEq, DV.loc.injEq, at0, at1, at2, cut1, O.binAI, O.binAS, O.binAT, O.binAL, O.binS, O.binM, O.binML, O.binF, O.binR, O.binP, O.cmpEq, O.cmpNe, O.cmpIsN, O.cmpNotN, O.cmpLt, O.cmpLtS, O.cmpLe, O.cmpGt, O.cmpGe, O.cmpInL, O.cmpInT, O.cmpInS, O.cmpNiL, O.cmpNiT, O.cmpNiS, O.subL, O.subT, O.subS, O.cutL, O.cutT, O.cutS, O.revL, O.revS, O.lenL, O.lenT, O.lenS, O.absI, O.intI, O.intB, O.listL, O.listT, O.listS, O.tupL, O.tupT, O.max2, O.min2, O.anyL, O.allL, O.sumL, O.metA, O.metP, O.metJ, O.newL, O.newC, O.newT, O.augAI, O.augSI, O.augAL, O.setLI, O.getLI, O.bindN, O.bindT, ↓O.var0, ↓O.var1, ↓O.var2, ↓O.var3, ↓O.var4, ↓O.var5, ↓O.var6, ↓O.var7, ↓O.var8, ↓O.var9, ↓O.var10, ↓O.var11, ↓O.var12, ↓O.var13, ↓O.var14, ↓O.var15, ↓O.var16, ↓O.var17, ↓O.var18, ↓O.var19, ↓O.var20, ↓O.var21, ↓O.var22, ↓O.var23, look_loc hc]
  refine ⟨_, .inl rfl, _, strs_chars cs, ?_, ?_⟩
  · rw [sum_chars]
    simp only [Nat.mul_zero, Nat.add_zero]
    exact Nat.le_trans hl (by decide)
  · rw [sjoin_chars]
    exact law7 hl hs hj hk
theorem Drawn.keepC {m m' : Mu} {a b b' c : Nat} {j : Int} {o : DO} (h : Drawn m m' a b b' j) (h1 : c ≠ a) (h2 : c ≠ b) (hc : m c = some o) : m' c = some o ∧ c ≠ b' := by
  refine ⟨by rw [h.2.2 c h1 h2 (by rw [hc]; simp)]; exact hc, ?_⟩
  rcases h.2.1 with e | e
  · rw [e]; exact h2
  · exact ne_of_some hc e
theorem St.putC {m : Mu} {a b c : Nat} {j : Int} {o : DO} (h : St m a b j) (h1 : c ≠ a) (h2 : c ≠ b) : St (m.put c o) a b j := by
  obtain ⟨p1, p2, ⟨ks, p3, p4⟩, is, p5⟩ := h
  exact ⟨p1, p2, ⟨ks, p3, by rw [put_ne (Ne.symm h1)]; exact p4⟩, is, by rw [put_ne (Ne.symm h2)]; exact p5⟩
theorem signs_len : (txt4 ++ txt3).length = 95 := by decide
theorem law5 {v0 v3 v5 v7 : Option DV} {p : Int} {cs : S} {a b c : Nat} {j : Int} {m : Mu} {k : Post} {e : XPost} (hl : cs.length ≤ 900) (hs : St m a b j) (hj : j < 10000) (hca : c ≠ a) (hcb : c ≠ b) (hc : m c = some (.lst (cs.map fun c => .str [c]))) (hk : ∀ m', k (.bl true) m') :
    rdSs G B_law_t5 (DF k e) [v0, some (.loc a), some (.int p), v3, some (.loc c), v5, none, v7] m := by
  rw [B_law_t5, rdSs]
  simp only [rdS, rdT, rdE, rdA, rdI, rdO, rdW, look_non, look_bl, look_int, look_str, look_tup, look_lst, look_dic, look_dit, look_ins, look_scr, isiD, truD, isNonD, itemsD, mtyp, isRng, List.map_cons, List.map_nil, List.map, List.getElem?_cons_zero, List.getElem?_cons_succ, List.getElem?_nil, List.set_cons_zero, List.set_cons_succ, List.length_cons, List.length_nil, List.cons_append, List.nil_append, List.foldr_cons, List.foldr_nil, Option.some.injEq, exists_eq_left', exists_eq_left, exists_eq_right, and_true, true_and, Nat.zero_add, Nat.reduceAdd, Nat.reduceLT, Nat.lt_add_one, Bool.true_eq_false, Bool.false_eq_true, if_true, if_false, DV.bl.injEq, DV.int.injEq, DV.str.injEq, DV.lst.injEq, DV.tup.injEq, DV.loc.injEq, at0, at1, at2, cut1, O.binAI, O.binAS, O.binAT, O.binAL, O.binS, O.binM, O.binML, O.binF, O.binR, O.binP, O.cmpEq, O.cmpNe, O.cmpIsN, O.cmpNotN, O.cmpLt, O.cmpLtS, O.cmpLe, O.cmpGt, O.cmpGe, O.cmpInL, O.cmpInT, O.cmpInS, O.cmpNiL, O.cmpNiT, O.cmpNiS, O.subL, O.subT, O.subS, O.cutL, O.cutT, O.cutS, O.revL, O.revS, O.lenL, O.lenT, O.lenS, O.absI, O.intI, O.intB, O.listL, O.listT, O.listS, O.tupL, O.tupT, O.max2, O.min2, O.anyL, O.allL, O.sumL, O.metA, O.metP, O.metJ, O.newL, O.newC, O.newT, O.augAI, O.augSI, O.augAL, O.setLI, O.getLI, O.bindN, O.bindT, ↓O.var0, ↓O.var1, ↓O.var2, ↓O.var3, ↓O.var4, ↓O.var5, ↓O.var6, ↓O.var7, ↓O.var8, ↓O.var9, ↓O.var10, ↓O.var11, ↓O.var12, ↓O.var13, ↓O.var14, ↓O.var15, ↓O.var16, ↓O.var17, ↓O.var18, ↓O.var19, ↓O.var20, ↓O.var21, ↓O.var22, ↓O.var23, look_loc hc]
  refine ⟨⟨rfl, rfl, by simp [depth], by decide⟩, iteJ (fun _ => ?_) (fun _ => ?_)⟩
  · refine ⟨by decide, ⟨by unfold plain; exact plains_chars _, rfl, by unfold depth; rw [depths_chars]; decide, by decide⟩, ?_⟩
    cases cs with
    | nil =>
      refine iteF (by simp [eqv, eqvs]) ?_
      rw [rdSs]
      exact law6 (cs := []) (by decide) hs (by omega) hc hk
    | cons c0 cs =>
      refine iteT (by simp [eqv, eqvs]) ?_
      rw [rdSs]
      simp only [rdS, rdT, rdE, rdA, rdI, rdO, rdW, look_non, look_bl, look_int, look_str, look_tup, look_lst, look_dic, look_dit, look_ins, look_scr, isiD, truD, isNonD, itemsD, mtyp, isRng, List.map_cons, List.map_nil, List.map, List.getElem?_cons_zero, List.getElem?_cons_succ, List.getElem?_nil, List.set_cons_zero, List.set_cons_succ, List.length_cons, List.length_nil, List.cons_append, List.nil_append, List.foldr_cons, List.foldr_nil, Option.some.injEq, exists_eq_left', exists_eq_left, exists_eq_right, and_true, true_and, Nat.zero_add, Nat.reduceAdd, Nat.reduceLT, Nat.lt_add_one, Bool.true_eq_false, Bool.false_eq_true, if_true, if_false, DV.bl.injEq, DV.int.injEq, DV.str.injEq, DV.lst.injEq, DV.tup.injEq, DV.loc.injEq, at0, at1, at2, cut1, O.binAI, O.binAS, O.binAT, O.binAL, O.binS, O.binM, O.binML, O.binF, O.binR, O.binP, O.cmpEq, O.cmpNe, O.cmpIsN, O.cmpNotN, O.cmpLt, O.cmpLtS, O.cmpLe, O.cmpGt, O.cmpGe, O.cmpInL, O.cmpInT, O.cmpInS, O.cmpNiL, O.cmpNiT, O.cmpNiS, O.subL, O.subT, O.subS, O.cutL, O.cutT, O.cutS, O.revL, O.revS, O.lenL, O.lenT, O.lenS, O.absI, O.intI, O.intB, O.listL, O.listT, O.listS, O.tupL, O.tupT, O.max2, O.min2, O.anyL, O.allL, O.sumL, O.metA, O.metP, O.metJ, O.newL, O.newC, O.newT, O.augAI, O.augSI, O.augAL, O.setLI, O.getLI, O.bindN, O.bindT, ↓O.var0, ↓O.var1, ↓O.var2, ↓O.var3, ↓O.var4, ↓O.var5, ↓O.var6, ↓O.var7, ↓O.var8, ↓O.var9, ↓O.var10, ↓O.var11, ↓O.var12, ↓O.var13, ↓O.var14, ↓O.var15, ↓O.var16, ↓O.var17, ↓O.var18, ↓O.var19, ↓O.var20, ↓O.var21, ↓O.var22, ↓O.var23]
      refine call4 ?_
      refine call4 ?_
      simp only [rdS, rdT, rdE, rdA, rdI, rdO, rdW, look_non, look_bl, look_int, look_str, look_tup, look_lst, look_dic, look_dit, look_ins, look_scr, isiD, truD, isNonD, itemsD, mtyp, isRng, List.map_cons, List.map_nil, List.map, List.getElem?_cons_zero, List.getElem?_cons_succ, List.getElem?_nil, List.set_cons_zero, List.set_cons_succ, List.length_cons, List.length_nil, List.cons_append, List.nil_append, List.foldr_cons, List.foldr_nil, Option.some.injEq, exists_eq_left', exists_eq_left, exists_eq_right, and_true, true_and, Nat.zero_add, Nat.reduceAdd, Nat.reduceLT, Nat.lt_add_one, Bool.true_eq_false, Bool.false_eq_true, if_true, if_false, DV.bl.injEq, DV.int.injEq, DV.str.injEq, DV.lst.injEq, DV.tup.injEq, DV.loc.injEq, at0, at1, at2, cut1, O.binAI, O.binAS, O.binAT, O.binAL, O.binS, O.binM, O.binML, O.binF, O.binR, O.binP, O.cmpEq, O.cmpNe, O.cmpIsN, O.cmpNotN, O.cmpLt, O.cmpLtS, O.cmpLe, O.cmpGt, O.cmpGe, O.cmpInL, O.cmpInT, O.cmpInS, O.cmpNiL, O.cmpNiT, O.cmpNiS, O.subL, O.subT, O.subS, O.cutL, O.cutT, O.cutS, O.revL, O.revS, O.lenL, O.lenT, O.lenS, O.absI, O.intI, O.intB, O.listL, O.listT, O.listS, O.tupL, O.tupT, O.max2, O.min2, O.anyL, O.allL, O.sumL, O.metA, O.metP, O.metJ, O.newL, O.newC, O.newT, O.augAI, O.augSI, O.augAL, O.setLI, O.getLI, O.bindN, O.bindT, ↓O.var0, ↓O.var1, ↓O.var2, ↓O.var3, ↓O.var4, ↓O.var5, ↓O.var6, ↓O.var7, ↓O.var8, ↓O.var9, ↓O.var10, ↓O.var11, ↓O.var12, ↓O.var13, ↓O.var14, ↓O.var15, ↓O.var16, ↓O.var17, ↓O.var18, ↓O.var19, ↓O.var20, ↓O.var21, ↓O.var22, ↓O.var23]
      refine ⟨by decide, ?_⟩
      refine call3 hs (by omega) (by decide) (by decide) fun r b' m' h0 h1 hd => ?_
      simp only [rdS, rdT, rdE, rdA, rdI, rdO, rdW, look_non, look_bl, look_int, look_str, look_tup, look_lst, look_dic, look_dit, look_ins, look_scr, isiD, truD, isNonD, itemsD, mtyp, isRng, List.map_cons, List.map_nil, List.map, List.getElem?_cons_zero, List.getElem?_cons_succ, List.getElem?_nil, List.set_cons_zero, List.set_cons_succ, List.length_cons, List.length_nil, List.cons_append, List.nil_append, List.foldr_cons, List.foldr_nil, Option.some.injEq, exists_eq_left', exists_eq_left, exists_eq_right, and_true, true_and, Nat.zero_add, Nat.reduceAdd, Nat.reduceLT, Nat.lt_add_one, Bool.true_eq_false, Bool.false_eq_true, if_true, if_false, DV.bl.injEq, DV.int.injEq, DV.str.injEq, DV.lst.injEq, DV.tup.injEq, DV.loc.injEq, at0, at1, at2, cut1, O.binAI, O.binAS, O.binAT, O.binAL, O.binS, O.binM, O.binML, O.binF, O.binR, O.binP, O.cmpEq, O.cmpNe, O.cmpIsN, O.cmpNotN, O.cmpLt, O.cmpLtS, O.cmpLe, O.cmpGt, O.cmpGe, O.cmpInL, O.cmpInT, O.cmpInS, O.cmpNiL, O.cmpNiT, O.cmpNiS, O.subL, O.subT, O.subS, O.cutL, O.cutT, O.cutS, O.revL, O.revS, O.lenL, O.lenT, O.lenS, O.absI, O.intI, O.intB, O.listL, O.listT, O.listS, O.tupL, O.tupT, O.max2, O.min2, O.anyL, O.allL, O.sumL, O.metA, O.metP, O.metJ, O.newL, O.newC, O.newT, O.augAI, O.augSI, O.augAL, O.setLI, O.getLI, O.bindN, O.bindT, ↓O.var0, ↓O.var1, ↓O.var2, ↓O.var3, ↓O.var4, ↓O.var5, ↓O.var6, ↓O.var7, ↓O.var8, ↓O.var9, ↓O.var10, ↓O.var11, ↓O.var12, ↓O.var13, ↓O.var14, ↓O.var15, ↓O.var16, ↓O.var17, ↓O.var18, ↓O.var19, ↓O.var20, ↓O.var21, ↓O.var22, ↓O.var23]
      obtain ⟨v, hv, hin⟩ := at_in (xs := txt4 ++ txt3) h0 (by rw [signs_len] at h1 ⊢; exact h1)
      refine ⟨by decide, v, hv, ?_⟩
      obtain ⟨hc', hcb'⟩ := hd.keepC hca hcb hc
      simp only [rdS, rdT, rdE, rdA, rdI, rdO, rdW, look_non, look_bl, look_int, look_str, look_tup, look_lst, look_dic, look_dit, look_ins, look_scr, isiD, truD, isNonD, itemsD, mtyp, isRng, List.map_cons, List.map_nil, List.map, List.getElem?_cons_zero, List.getElem?_cons_succ, List.getElem?_nil, List.set_cons_zero, List.set_cons_succ, List.length_cons, List.length_nil, List.cons_append, List.nil_append, List.foldr_cons, List.foldr_nil, Option.some.injEq, exists_eq_left', exists_eq_left, exists_eq_right, and_true, true_and, Nat.zero_add, Nat.reduceAdd, Nat.reduceLT, Nat.lt_add_one, Bool.true_eq_false, Bool.false_eq_true, if_true, if_false, DV.bl.injEq, DV.int.injEq, DV.str.injEq, DV.lst.injEq, DV.tup.injEq, DV.loc.injEq, at0, at1, at2, cut1, O.binAI, O.binAS, O.binAT, O.binAL, O.binS, O.binM, O.binML, O.binF, O.binR, O.binP, O.cmpEq, O.cmpNe, O.cmpIsN, O.cmpNotN, O.cmpLt, O.cmpLtS, O.cmpLe, O.cmpGt, O.cmpGe, O.cmpInL, O.cmpInT, O.cmpInS, O.cmpNiL, O.cmpNiT, O.cmpNiS, O.subL, O.subT, O.subS, O.cutL, O.cutT, O.cutS, O.revL, O.revS, O.lenL, O.lenT, O.lenS, O.absI, O.intI, O.intB, O.listL, O.listT, O.listS, O.tupL, O.tupT, O.max2, O.min2, O.anyL, O.allL, O.sumL, O.metA, O.metP, O.metJ, O.newL, O.newC, O.newT, O.augAI, O.augSI, O.augAL, O.setLI, O.getLI, O.bindN, O.bindT, ↓O.var0, ↓O.var1, ↓O.var2, ↓O.var3, ↓O.var4, ↓O.var5, ↓O.var6, ↓O.var7, ↓O.var8, ↓O.var9, ↓O.var10, ↓O.var11, ↓O.var12, ↓O.var13, ↓O.var14, ↓O.var15, ↓O.var16, ↓O.var17, ↓O.var18, ↓O.var19, ↓O.var20, ↓O.var21, ↓O.var22, ↓O.var23, look_loc hc']
      refine call3 hd.1 (by omega) (by first | omega | (simp; done) | (simp; omega)) (by simp at hl ⊢; omega) fun r2 b2 m2 h2 h3 hd2 => ?_
      obtain ⟨hc2, hcb2⟩ := hd2.keepC hca hcb' hc'
      simp only [rdS, rdT, rdE, rdA, rdI, rdO, rdW, look_non, look_bl, look_int, look_str, look_tup, look_lst, look_dic, look_dit, look_ins, look_scr, isiD, truD, isNonD, itemsD, mtyp, isRng, List.map_cons, List.map_nil, List.map, List.getElem?_cons_zero, List.getElem?_cons_succ, List.getElem?_nil, List.set_cons_zero, List.set_cons_succ, List.length_cons, List.length_nil, List.cons_append, List.nil_append, List.foldr_cons, List.foldr_nil, Option.some.injEq, exists_eq_left', exists_eq_left, exists_eq_right, and_true, true_and, Nat.zero_add, Nat.reduceAdd, Nat.reduceLT, Nat.lt_add_one, Bool.true_eq_false, Bool.false_eq_true, if_true, if_false, DV.bl.injEq, DV.int.injEq, DV.str.injEq, DV.lst.injEq, DV.tup.injEq, DV.loc.injEq, at0, at1, at2, cut1, O.binAI, O.binAS, O.binAT, O.binAL, O.binS, O.binM, O.binML, O.binF, O.binR, O.binP, O.cmpEq, O.cmpNe, O.cmpIsN, O.cmpNotN, O.cmpLt, O.cmpLtS, O.cmpLe, O.cmpGt, O.cmpGe, O.cmpInL, O.cmpInT, O.cmpInS, O.cmpNiL, O.cmpNiT, O.cmpNiS, O.subL, O.subT, O.subS, O.cutL, O.cutT, O.cutS, O.revL, O.revS, O.lenL, O.lenT, O.lenS, O.absI, O.intI, O.intB, O.listL, O.listT, O.listS, O.tupL, O.tupT, O.max2, O.min2, O.anyL, O.allL, O.sumL, O.metA, O.metP, O.metJ, O.newL, O.newC, O.newT, O.augAI, O.augSI, O.augAL, O.setLI, O.getLI, O.bindN, O.bindT, ↓O.var0, ↓O.var1, ↓O.var2, ↓O.var3, ↓O.var4, ↓O.var5, ↓O.var6, ↓O.var7, ↓O.var8, ↓O.var9, ↓O.var10, ↓O.var11, ↓O.var12, ↓O.var13, ↓O.var14, ↓O.var15, ↓O.var16, ↓O.var17, ↓O.var18, ↓O.var19, ↓O.var20, ↓O.var21, ↓O.var22, ↓O.var23]
      refine ⟨_, _, hc2, idx_some h2 h3, ?_⟩
      rw [rdSs]
      refine law6 (cs := (c0 :: cs).set r2.toNat v) (by simp at hl ⊢; omega) (hd2.1.putC hca hcb2) (by omega) ?_ hk
      rw [put_same, List.map_set]
  · rw [rdSs]
    exact law6 hl hs (by omega) hc hk
theorem law4 {v0 v4 v5 v7 : Option DV} {p : Int} {sg : S} {a b : Nat} {m : Mu} {k : Post} {e : XPost} (h0 : 0 < sg.length) (h1 : sg.length ≤ 900) (hs : St m a b 1) (hk : ∀ m', k (.bl true) m') :
    rdSs G B_law_t4 (DF k e) [v0, some (.loc a), some (.int p), some (.str sg), v4, v5, none, v7] m := by
  have hsl : sg.length ≤ LINE := Nat.le_trans h1 (by decide)
  rw [B_law_t4, rdSs]
  simp only [rdS, rdT, rdE, rdA, rdI, rdO, rdW, look_non, look_bl, look_int, look_str, look_tup, look_lst, look_dic, look_dit, look_ins, look_scr, isiD, truD, isNonD, itemsD, mtyp, isRng, List.map_cons, List.map_nil, List.map, List.getElem?_cons_zero, List.getElem?_cons_succ, List.getElem?_nil, List.set_cons_zero, List.set_cons_succ, List.length_cons, List.length_nil, List.cons_append, List.nil_append, List.foldr_cons, List.foldr_nil, Option.some.injEq, exists_eq_left', exists_eq_left, exists_eq_right, and_true, true_and, Nat.zero_add, Nat.reduceAdd, Nat.reduceLT, Nat.lt_add_one, Bool.true_eq_false, Bool.false_eq_true, if_true, if_false, DV.bl.injEq, DV.int.injEq, DV.str.injEq, DV.lst.injEq, DV.tup.injEq, DV.loc.injEq, at0, at1, at2, cut1, O.binAI, O.binAS, O.binAT, O.binAL, O.binS, O.binM, O.binML, O.binF, O.binR, O.binP, O.cmpEq, O.cmpNe, O.cmpIsN, O.cmpNotN, O.cmpLt, O.cmpLtS, O.cmpLe, O.cmpGt, O.cmpGe, O.cmpInL, O.cmpInT, O.cmpInS, O.cmpNiL, O.cmpNiT, O.cmpNiS, O.subL, O.subT, O.subS, O.cutL, O.cutT, O.cutS, O.revL, O.revS, O.lenL, O.lenT, O.lenS, O.absI, O.intI, O.intB, O.listL, O.listT, O.listS, O.tupL, O.tupT, O.max2, O.min2, O.anyL, O.allL, O.sumL, O.metA, O.metP, O.metJ, O.newL, O.newC, O.newT, O.augAI, O.augSI, O.augAL, O.setLI, O.getLI, O.bindN, O.bindT, ↓O.var0, ↓O.var1, ↓O.var2, ↓O.var3, ↓O.var4, ↓O.var5, ↓O.var6, ↓O.var7, ↓O.var8, ↓O.var9, ↓O.var10, ↓O.var11, ↓O.var12, ↓O.var13, ↓O.var14, ↓O.var15, ↓O.var16, ↓O.var17, ↓O.var18, ↓O.var19, ↓O.var20, ↓O.var21, ↓O.var22, ↓O.var23]
  refine ⟨by decide, call3 hs (by omega) (by decide) (by decide) fun r b' m' h2 h3 hd => ?_⟩
  simp only [rdS, rdT, rdE, rdA, rdI, rdO, rdW, look_non, look_bl, look_int, look_str, look_tup, look_lst, look_dic, look_dit, look_ins, look_scr, isiD, truD, isNonD, itemsD, mtyp, isRng, List.map_cons, List.map_nil, List.map, List.getElem?_cons_zero, List.getElem?_cons_succ, List.getElem?_nil, List.set_cons_zero, List.set_cons_succ, List.length_cons, List.length_nil, List.cons_append, List.nil_append, List.foldr_cons, List.foldr_nil, Option.some.injEq, exists_eq_left', exists_eq_left, exists_eq_right, and_true, true_and, Nat.zero_add, Nat.reduceAdd, Nat.reduceLT, Nat.lt_add_one, Bool.true_eq_false, Bool.false_eq_true, if_true, if_false, DV.bl.injEq, DV.int.injEq, DV.str.injEq, DV.lst.injEq, DV.tup.injEq, DV.loc.injEq, at0, at1, at2, cut1, O.binAI, O.binAS, O.binAT, O.binAL, O.binS, O.binM, O.binML, O.binF, O.binR, O.binP, O.cmpEq, O.cmpNe, O.cmpIsN, O.cmpNotN, O.cmpLt, O.cmpLtS, O.cmpLe, O.cmpGt, O.cmpGe, O.cmpInL, O.cmpInT, O.cmpInS, O.cmpNiL, O.cmpNiT, O.cmpNiS, O.subL, O.subT, O.subS, O.cutL, O.cutT, O.cutS, O.revL, O.revS, O.lenL, O.lenT, O.lenS, O.absI, O.intI, O.intB, O.listL, O.listT, O.listS, O.tupL, O.tupT, O.max2, O.min2, O.anyL, O.allL, O.sumL, O.metA, O.metP, O.metJ, O.newL, O.newC, O.newT, O.augAI, O.augSI, O.augAL, O.setLI, O.getLI, O.bindN, O.bindT, ↓O.var0, ↓O.var1, ↓O.var2, ↓O.var3, ↓O.var4, ↓O.var5, ↓O.var6, ↓O.var7, ↓O.var8, ↓O.var9, ↓O.var10, ↓O.var11, ↓O.var12, ↓O.var13, ↓O.var14, ↓O.var15, ↓O.var16, ↓O.var17, ↓O.var18, ↓O.var19, ↓O.var20, ↓O.var21, ↓O.var22, ↓O.var23]
  obtain ⟨v, hv, hin⟩ := at_in (xs := [DV.int 9, DV.int 9, DV.int 9, DV.int 80]) h2 (by simpa using h3)
  refine ⟨v, hv, ?_⟩
  have hx : ∃ n : Int, 0 < n ∧ n ≤ 80 ∧ v = .int n := by
    simp only [List.mem_cons, List.not_mem_nil, or_false] at hin
    rcases hin with rfl | rfl | rfl | rfl <;> exact ⟨_, by decide, by decide, rfl⟩
  obtain ⟨n, hn0, hn1, rfl⟩ := hx
  refine call3 hd.1 (by omega) hn0 (by omega) fun r2 b2 m2 h4 h5 hd2 => ?_
  refine ⟨r2, rfl, by omega, by omega, fun _ => by unfold rangeL; rw [List.length_map, List.length_range]; exact Nat.le_trans (m := 80) (by omega) (by decide), ?_⟩
  have hlen : (rangeL 0 r2.toNat 1).length ≤ 80 := by unfold rangeL; rw [List.length_map, List.length_range]; omega
  refine compW_inv (fun done acc m3 => ∃ b3 cs, St m3 a b3 (3 + (done.length : Int)) ∧ acc = cs.map (fun c => DV.str [c]) ∧ cs.length ≤ done.length) (all := rangeL 0 r2.toNat 1) (done := []) rfl ⟨b2, [], by simpa using hd2.1, rfl, Nat.le_refl 0⟩ ?_ ?_
  · rintro done x rest acc m3 hall ⟨b3, cs, hs3, rfl, hcs⟩ kk hk1 _
    have hd3 : done.length < 80 := by
      have := congrArg List.length hall
      rw [List.length_append, List.length_cons] at this
      omega
    refine ⟨trivial, hsl, call3 hs3 (by omega) (by omega) (by omega) fun r4 b4 m4 h6 h7 hd4 => ?_⟩
    simp only [rdS, rdT, rdE, rdA, rdI, rdO, rdW, look_non, look_bl, look_int, look_str, look_tup, look_lst, look_dic, look_dit, look_ins, look_scr, isiD, truD, isNonD, itemsD, mtyp, isRng, List.map_cons, List.map_nil, List.map, List.getElem?_cons_zero, List.getElem?_cons_succ, List.getElem?_nil, List.set_cons_zero, List.set_cons_succ, List.length_cons, List.length_nil, List.cons_append, List.nil_append, List.foldr_cons, List.foldr_nil, Option.some.injEq, exists_eq_left', exists_eq_left, exists_eq_right, and_true, true_and, Nat.zero_add, Nat.reduceAdd, Nat.reduceLT, Nat.lt_add_one, Bool.true_eq_false, Bool.false_eq_true, if_true, if_false, DV.bl.injEq, DV.int.injEq, DV.str.injEq, DV.lst.injEq, DV.tup.injEq, DV.loc.injEq, at0, at1, at2, cut1, O.binAI, O.binAS, O.binAT, O.binAL, O.binS, O.binM, O.binML, O.binF, O.binR, O.binP, O.cmpEq, O.cmpNe, O.cmpIsN, O.cmpNotN, O.cmpLt, O.cmpLtS, O.cmpLe, O.cmpGt, O.cmpGe, O.cmpInL, O.cmpInT, O.cmpInS, O.cmpNiL, O.cmpNiT, O.cmpNiS, O.subL, O.subT, O.subS, O.cutL, O.cutT, O.cutS, O.revL, O.revS, O.lenL, O.lenT, O.lenS, O.absI, O.intI, O.intB, O.listL, O.listT, O.listS, O.tupL, O.tupT, O.max2, O.min2, O.anyL, O.allL, O.sumL, O.metA, O.metP, O.metJ, O.newL, O.newC, O.newT, O.augAI, O.augSI, O.augAL, O.setLI, O.getLI, O.bindN, O.bindT, ↓O.var0, ↓O.var1, ↓O.var2, ↓O.var3, ↓O.var4, ↓O.var5, ↓O.var6, ↓O.var7, ↓O.var8, ↓O.var9, ↓O.var10, ↓O.var11, ↓O.var12, ↓O.var13, ↓O.var14, ↓O.var15, ↓O.var16, ↓O.var17, ↓O.var18, ↓O.var19, ↓O.var20, ↓O.var21, ↓O.var22, ↓O.var23]
    obtain ⟨v, hv, _⟩ := at_in (xs := sg) h6 h7
    refine ⟨hsl, v, hv, hk1 _ _ ⟨b4, cs ++ [v], ?_, by simp, by simp; omega⟩⟩
    have e : 3 + ((done ++ [x]).length : Int) = 3 + (done.length : Int) + 1 := by simp; omega
    rw [e]
    exact hd4.1
  · rintro acc m3 ⟨b3, cs, hs3, rfl, hcs⟩
    refine ⟨trivial, fun c hc => ?_⟩
    have hca : c ≠ a := fun e => hs3.ne (by rw [← e]; exact hc)
    have hcb : c ≠ b3 := by
      obtain ⟨_, _, _, is, h⟩ := hs3
      exact (ne_of_some h hc).symm
    exact law5 (by omega) (hs3.putC hca hcb) (by omega) hca hcb put_same hk
theorem law3 {v0 v4 v5 v7 : Option DV} {p : Int} {sg : S} {a b : Nat} {m : Mu} {k : Post} {e : XPost} (h0 : 0 < sg.length) (h1 : sg.length ≤ 900) (hs : St m a b 1) (hk : ∀ m', k (.bl true) m') :
    rdSs G B_law_t3 (DF k e) [v0, some (.loc a), some (.int p), some (.str sg), v4, v5, none, v7] m := by
  rw [B_law_t3, rdSs]
  simp only [rdS, rdT, rdE, rdA, rdI, rdO, rdW, look_non, look_bl, look_int, look_str, look_tup, look_lst, look_dic, look_dit, look_ins, look_scr, isiD, truD, isNonD, itemsD, mtyp, isRng, List.map_cons, List.map_nil, List.map, List.getElem?_cons_zero, List.getElem?_cons_succ, List.getElem?_nil, List.set_cons_zero, List.set_cons_succ, List.length_cons, List.length_nil, List.cons_append, List.nil_append, List.foldr_cons, List.foldr_nil, Option.some.injEq, exists_eq_left', exists_eq_left, exists_eq_right, and_true, true_and, Nat.zero_add, Nat.reduceAdd, Nat.reduceLT, Nat.lt_add_one, Bool.true_eq_false, Bool.false_eq_true, if_true, if_false, DV.bl.injEq, DV.int.injEq, DV.str.injEq, DV.lst.injEq, DV.tup.injEq, DV.loc.injEq, at0, at1, at2, cut1, O.binAI, O.binAS, O.binAT, O.binAL, O.binS, O.binM, O.binML, O.binF, O.binR, O.binP, O.cmpEq, O.cmpNe, O.cmpIsN, O.cmpNotN, O.cmpLt, O.cmpLtS, O.cmpLe, O.cmpGt, O.cmpGe, O.cmpInL, O.cmpInT, O.cmpInS, O.cmpNiL, O.cmpNiT, O.cmpNiS, O.subL, O.subT, O.subS, O.cutL, O.cutT, O.cutS, O.revL, O.revS, O.lenL, O.lenT, O.lenS, O.absI, O.intI, O.intB, O.listL, O.listT, O.listS, O.tupL, O.tupT, O.max2, O.min2, O.anyL, O.allL, O.sumL, O.metA, O.metP, O.metJ, O.newL, O.newC, O.newT, O.augAI, O.augSI, O.augAL, O.setLI, O.getLI, O.bindN, O.bindT, ↓O.var0, ↓O.var1, ↓O.var2, ↓O.var3, ↓O.var4, ↓O.var5, ↓O.var6, ↓O.var7, ↓O.var8, ↓O.var9, ↓O.var10, ↓O.var11, ↓O.var12, ↓O.var13, ↓O.var14, ↓O.var15, ↓O.var16, ↓O.var17, ↓O.var18, ↓O.var19, ↓O.var20, ↓O.var21, ↓O.var22, ↓O.var23]
  refine ⟨⟨rfl, rfl, by simp [depth], by decide⟩, iteJ (fun _ => ?_) (fun _ => ?_)⟩
  · rw [rdSs]
    simp only [rdS, rdT, rdE, rdA, rdI, rdO, rdW, look_non, look_bl, look_int, look_str, look_tup, look_lst, look_dic, look_dit, look_ins, look_scr, isiD, truD, isNonD, itemsD, mtyp, isRng, List.map_cons, List.map_nil, List.map, List.getElem?_cons_zero, List.getElem?_cons_succ, List.getElem?_nil, List.set_cons_zero, List.set_cons_succ, List.length_cons, List.length_nil, List.cons_append, List.nil_append, List.foldr_cons, List.foldr_nil, Option.some.injEq, exists_eq_left', exists_eq_left, exists_eq_right, and_true, true_and, Nat.zero_add, Nat.reduceAdd, Nat.reduceLT, Nat.lt_add_one, Bool.true_eq_false, Bool.false_eq_true, if_true, if_false, DV.bl.injEq, DV.int.injEq, DV.str.injEq, DV.lst.injEq, DV.tup.injEq, DV.loc.injEq, at0, at1, at2, cut1, O.binAI, O.binAS, O.binAT, O.binAL, O.binS, O.binM, O.binML, O.binF, O.binR, O.binP, O.cmpEq, O.cmpNe, O.cmpIsN, O.cmpNotN, O.cmpLt, O.cmpLtS, O.cmpLe, O.cmpGt, O.cmpGe, O.cmpInL, O.cmpInT, O.cmpInS, O.cmpNiL, O.cmpNiT, O.cmpNiS, O.subL, O.subT, O.subS, O.cutL, O.cutT, O.cutS, O.revL, O.revS, O.lenL, O.lenT, O.lenS, O.absI, O.intI, O.intB, O.listL, O.listT, O.listS, O.tupL, O.tupT, O.max2, O.min2, O.anyL, O.allL, O.sumL, O.metA, O.metP, O.metJ, O.newL, O.newC, O.newT, O.augAI, O.augSI, O.augAL, O.setLI, O.getLI, O.bindN, O.bindT, ↓O.var0, ↓O.var1, ↓O.var2, ↓O.var3, ↓O.var4, ↓O.var5, ↓O.var6, ↓O.var7, ↓O.var8, ↓O.var9, ↓O.var10, ↓O.var11, ↓O.var12, ↓O.var13, ↓O.var14, ↓O.var15, ↓O.var16, ↓O.var17, ↓O.var18, ↓O.var19, ↓O.var20, ↓O.var21, ↓O.var22, ↓O.var23]
    refine call4 ?_
    simp only [rdSs]
    exact law4 (by decide) (by decide) hs hk
  · rw [rdSs]
    exact law4 h0 h1 hs hk
def lawS : FSp := fun ds m k _ => ∃ ns : List Int, ds = [.scr ns] ∧ ns.length ≤ 100000 ∧ ∀ m', k (.bl true) m'
theorem d_law : ∀ ds m k e, lawS ds m k e → rdF G 8 B_law ds m k e := by
  rintro ds m k e ⟨ns, rfl, hn, hk⟩
  simp only [rdF, B_law, List.map_cons, List.map_nil, List.length_cons, List.length_nil, Nat.zero_add, Nat.reduceAdd, Nat.reduceSub, List.replicate_succ, List.replicate_zero, List.cons_append, List.nil_append]
  rw [rdSs]
  simp only [rdS, rdT, rdE, rdA, rdI, rdO, rdW, look_non, look_bl, look_int, look_str, look_tup, look_lst, look_dic, look_dit, look_ins, look_scr, isiD, truD, isNonD, itemsD, mtyp, isRng, List.map_cons, List.map_nil, List.map, List.getElem?_cons_zero, List.getElem?_cons_succ, List.getElem?_nil, List.set_cons_zero, List.set_cons_succ, List.length_cons, List.length_nil, List.cons_append, List.nil_append, List.foldr_cons, List.foldr_nil, Option.some.injEq, exists_eq_left', exists_eq_left, exists_eq_right, and_true, true_and, Nat.zero_add, Nat.reduceAdd, Nat.reduceLT, Nat.lt_add_one, Bool.true_eq_false, Bool.false_eq_true, if_true, if_false, DV.bl.injEq, DV.int.injEq, DV.str.injEq, DV.lst.injEq, DV.tup.injEq, DV.loc.injEq, at0, at1, at2, cut1, O.binAI, O.binAS, O.binAT, O.binAL, O.binS, O.binM, O.binML, O.binF, O.binR, O.binP, O.cmpEq, O.cmpNe, O.cmpIsN, O.cmpNotN, O.cmpLt, O.cmpLtS, O.cmpLe, O.cmpGt, O.cmpGe, O.cmpInL, O.cmpInT, O.cmpInS, O.cmpNiL, O.cmpNiT, O.cmpNiS, O.subL, O.subT, O.subS, O.cutL, O.cutT, O.cutS, O.revL, O.revS, O.lenL, O.lenT, O.lenS, O.absI, O.intI, O.intB, O.listL, O.listT, O.listS, O.tupL, O.tupT, O.max2, O.min2, O.anyL, O.allL, O.sumL, O.metA, O.metP, O.metJ, O.newL, O.newC, O.newT, O.augAI, O.augSI, O.augAL, O.setLI, O.getLI, O.bindN, O.bindT, ↓O.var0, ↓O.var1, ↓O.var2, ↓O.var3, ↓O.var4, ↓O.var5, ↓O.var6, ↓O.var7, ↓O.var8, ↓O.var9, ↓O.var10, ↓O.var11, ↓O.var12, ↓O.var13, ↓O.var14, ↓O.var15, ↓O.var16, ↓O.var17, ↓O.var18, ↓O.var19, ↓O.var20, ↓O.var21, ↓O.var22, ↓O.var23]
  refine call5 hn fun a b m1 hs _ => ?_
  rw [B_law_t1, rdSs]
  simp only [rdS, rdT, rdE, rdA, rdI, rdO, rdW, look_non, look_bl, look_int, look_str, look_tup, look_lst, look_dic, look_dit, look_ins, look_scr, isiD, truD, isNonD, itemsD, mtyp, isRng, List.map_cons, List.map_nil, List.map, List.getElem?_cons_zero, List.getElem?_cons_succ, List.getElem?_nil, List.set_cons_zero, List.set_cons_succ, List.length_cons, List.length_nil, List.cons_append, List.nil_append, List.foldr_cons, List.foldr_nil, Option.some.injEq, exists_eq_left', exists_eq_left, exists_eq_right, and_true, true_and, Nat.zero_add, Nat.reduceAdd, Nat.reduceLT, Nat.lt_add_one, Bool.true_eq_false, Bool.false_eq_true, if_true, if_false, DV.bl.injEq, DV.int.injEq, DV.str.injEq, DV.lst.injEq, DV.tup.injEq, DV.loc.injEq, at0, at1, at2, cut1, O.binAI, O.binAS, O.binAT, O.binAL, O.binS, O.binM, O.binML, O.binF, O.binR, O.binP, O.cmpEq, O.cmpNe, O.cmpIsN, O.cmpNotN, O.cmpLt, O.cmpLtS, O.cmpLe, O.cmpGt, O.cmpGe, O.cmpInL, O.cmpInT, O.cmpInS, O.cmpNiL, O.cmpNiT, O.cmpNiS, O.subL, O.subT, O.subS, O.cutL, O.cutT, O.cutS, O.revL, O.revS, O.lenL, O.lenT, O.lenS, O.absI, O.intI, O.intB, O.listL, O.listT, O.listS, O.tupL, O.tupT, O.max2, O.min2, O.anyL, O.allL, O.sumL, O.metA, O.metP, O.metJ, O.newL, O.newC, O.newT, O.augAI, O.augSI, O.augAL, O.setLI, O.getLI, O.bindN, O.bindT, ↓O.var0, ↓O.var1, ↓O.var2, ↓O.var3, ↓O.var4, ↓O.var5, ↓O.var6, ↓O.var7, ↓O.var8, ↓O.var9, ↓O.var10, ↓O.var11, ↓O.var12, ↓O.var13, ↓O.var14, ↓O.var15, ↓O.var16, ↓O.var17, ↓O.var18, ↓O.var19, ↓O.var20, ↓O.var21, ↓O.var22, ↓O.var23]
  refine call3 hs (by decide) (by decide) (by decide) fun r b2 m2 _ _ hd => ?_
  rw [B_law_t2, rdSs]
  simp only [rdS, rdT, rdE, rdA, rdI, rdO, rdW, look_non, look_bl, look_int, look_str, look_tup, look_lst, look_dic, look_dit, look_ins, look_scr, isiD, truD, isNonD, itemsD, mtyp, isRng, List.map_cons, List.map_nil, List.map, List.getElem?_cons_zero, List.getElem?_cons_succ, List.getElem?_nil, List.set_cons_zero, List.set_cons_succ, List.length_cons, List.length_nil, List.cons_append, List.nil_append, List.foldr_cons, List.foldr_nil, Option.some.injEq, exists_eq_left', exists_eq_left, exists_eq_right, and_true, true_and, Nat.zero_add, Nat.reduceAdd, Nat.reduceLT, Nat.lt_add_one, Bool.true_eq_false, Bool.false_eq_true, if_true, if_false, DV.bl.injEq, DV.int.injEq, DV.str.injEq, DV.lst.injEq, DV.tup.injEq, DV.loc.injEq, at0, at1, at2, cut1, O.binAI, O.binAS, O.binAT, O.binAL, O.binS, O.binM, O.binML, O.binF, O.binR, O.binP, O.cmpEq, O.cmpNe, O.cmpIsN, O.cmpNotN, O.cmpLt, O.cmpLtS, O.cmpLe, O.cmpGt, O.cmpGe, O.cmpInL, O.cmpInT, O.cmpInS, O.cmpNiL, O.cmpNiT, O.cmpNiS, O.subL, O.subT, O.subS, O.cutL, O.cutT, O.cutS, O.revL, O.revS, O.lenL, O.lenT, O.lenS, O.absI, O.intI, O.intB, O.listL, O.listT, O.listS, O.tupL, O.tupT, O.max2, O.min2, O.anyL, O.allL, O.sumL, O.metA, O.metP, O.metJ, O.newL, O.newC, O.newT, O.augAI, O.augSI, O.augAL, O.setLI, O.getLI, O.bindN, O.bindT, ↓O.var0, ↓O.var1, ↓O.var2, ↓O.var3, ↓O.var4, ↓O.var5, ↓O.var6, ↓O.var7, ↓O.var8, ↓O.var9, ↓O.var10, ↓O.var11, ↓O.var12, ↓O.var13, ↓O.var14, ↓O.var15, ↓O.var16, ↓O.var17, ↓O.var18, ↓O.var19, ↓O.var20, ↓O.var21, ↓O.var22, ↓O.var23]
  exact law3 (by decide) (by decide) hd.1 hk
end K01

set_option Elab.async false
set_option linter.all false
set_option maxRecDepth 100000
set_option maxHeartbeats 0
namespace K01
open PySem PySem.Spec PyProof.Rows L2 DL
theorem sc_valid : FnScope ["text", "char"] ["text"] (defScope (top 4)) := ⟨rfl, rfl, rfl, by decide +kernel, rfl, by decide +kernel, by decide +kernel⟩
theorem sc_start : FnScope ["_law_script", "_law_cell"] ["_law_script"] (defScope (top 6)) := ⟨rfl, rfl, rfl, by decide +kernel, rfl, by decide +kernel, by decide +kernel⟩
theorem sc_draw : FnScope ["_law_state", "_law_size", "_law_cell", "_law_one", "_law_digit"] ["_law_state", "_law_size"] (defScope (top 7)) := ⟨rfl, rfl, rfl, by decide +kernel, rfl, by decide +kernel, by decide +kernel⟩
theorem sc_signs : FnScope ["_law_signs_here"] [] (defScope (top 8)) := ⟨rfl, rfl, rfl, by decide +kernel, rfl, by decide +kernel, by decide +kernel⟩
theorem sc_good : FnScope ["_law_word", "_law_letters", "_law_sign"] ["_law_word"] (defScope (top 9)) := ⟨rfl, rfl, rfl, by decide +kernel, rfl, by decide +kernel, by decide +kernel⟩
theorem sc_law : FnScope ["_law_script", "_law_state", "_law_plan", "_law_signs_here", "_law_chars", "_law_word", "_law_actual", "_law_k"] ["_law_script"] (defScope (top 10)) := ⟨rfl, rfl, rfl, by decide +kernel, rfl, by decide +kernel, by decide +kernel⟩
def dd (x : PySem.Str) (i : Nat) : He.DefD := ⟨(x, none), x, x, defArgs (top i), defBody (top i), defScope (top i), [], []⟩
def fn : List He.DefD := [dd "valid_name" 4, dd "_law_start" 6, dd "_law_draw" 7, dd "_law_signs" 8, dd "_law_good" 9, dd "law" 10]
def fa : List He.Fa := [.glo "valid_name", .glo "_law_start", .glo "_law_draw", .glo "_law_signs", .glo "_law_good", .glo "law", .str "LETTERS" "abcdefghijklmnopqrstuvwxyz", .str "DIGITS" "0123456789", .int "LONGEST" 6] ++ bltNames.map .free
abbrev R : PySem.W.OpenRow := PySem.W.OpenLaw.row PySem.Challenge.rw_anyfactors_k01_valid_names
abbrev hk : PySem.W.Hook := He.hookD 4 fa fn
def ob (s : PySem.W.SharedT) : He.AlD := He.obsDG 4 fa fn (HandSHeadRun.getT s)
theorem ob_eq (s : PySem.W.SharedT) : ob s = hk.obs s.abs := He.obsDG_eq (HandSHeadRun.getT_eq s)
abbrev loose : List PySem.Str := ["LETTERS", "DIGITS", "LONGEST", "valid_name", "_law_start", "_law_draw", "_law_signs", "_law_good"]
theorem run (w : World) : HandSHeadRun.RunEq R (PySem.W.view R.prog [10]) hk ob 600 loose w := by
  intro os
  kernel_rfl
end K01

set_option Elab.async false
set_option linter.all false
set_option maxRecDepth 100000
set_option maxHeartbeats 0
namespace DL
open PySem PySem.Spec PyProof.Rows L2
theorem gl_str {K : PySem.W.Frag} {h : Heap} {mg : PySem.Str → Option Value} (X : K.In h) (G : h.Ns mainGlobals mg) {x z : PySem.Str} {d : S} (c : (He.Fa.str x z).ok K = true) (e : z.cps.toList = d) (hc : ∀ c ∈ d, c < 0x110000) :
    ∃ v u, mg x = some u ∧ RelV v u ∧ ∀ F, RelD K F v (.str d) := by
  obtain ⟨t, ht⟩ := He.str_ok X G c
  subst e
  exact ⟨.str z, _, ht, ⟨t, rfl⟩, fun F => .str z hc⟩
theorem gl_int {K : PySem.W.Frag} {h : Heap} {mg : PySem.Str → Option Value} (X : K.In h) (G : h.Ns mainGlobals mg) {x : PySem.Str} {i : Int} (c : (He.Fa.int x i).ok K = true) :
    ∃ v u, mg x = some u ∧ RelV v u ∧ ∀ F, RelD K F v (.int i) := by
  obtain ⟨t, ht⟩ := He.int_ok X G c
  exact ⟨.int i, _, ht, ⟨t, rfl⟩, fun F => .int i⟩
end DL
namespace K01
open PySem PySem.Spec PyProof.Rows L2 DL
theorem G0tab {P : Program} {w : World} {K : PySem.W.Frag} {mg : PySem.Str → Option Value} {base : Heap} {fld : Addr → PySem.Str} {k : Nat} (hb : ∀ x ∈ bltNames, mg x = none) : Tab P w K mg base fld k [] [] G0 :=
  ⟨fun f x h => (by simp at h), hb, fun x d h => (by cases h)⟩
theorem facts {P : Program} {w : World} {K : PySem.W.Frag} {h : Heap} {mg : PySem.Str → Option Value} {f : Addr} (X : K.In h) (G : h.Ns mainGlobals mg) (hfa : mg ("law" : PySem.Str) = some (.ref f)) (c : He.SaysD fa fn K) :
    ∃ (fd : FuncData), (∀ (s : Shared) (v : Value), BindsTo s fd ⟨[v], []⟩ [("_law_script", v)]) ∧ ∀ base : Heap, K.In base → base.Ns mainGlobals mg → FnOk P w K mg base (L2.CX P w) 2 f fd ["_law_script"] (spG K (fun _ => "") lawS) := by
  obtain ⟨fd1, F1⟩ := c.def_ 0 (d := dd "valid_name" 4) rfl
  obtain ⟨fd2, F2⟩ := c.def_ 1 (d := dd "_law_start" 6) rfl
  obtain ⟨fd3, F3⟩ := c.def_ 2 (d := dd "_law_draw" 7) rfl
  obtain ⟨fd4, F4⟩ := c.def_ 3 (d := dd "_law_signs" 8) rfl
  obtain ⟨fd5, F5⟩ := c.def_ 4 (d := dd "_law_good" 9) rfl
  obtain ⟨fd6, F6⟩ := c.def_ 5 (d := dd "law" 10) rfl
  have g1 := He.glo_ok X G (c.fact 0 (f := .glo "valid_name") rfl)
  have g2 := He.glo_ok X G (c.fact 1 (f := .glo "_law_start") rfl)
  have g3 := He.glo_ok X G (c.fact 2 (f := .glo "_law_draw") rfl)
  have g4 := He.glo_ok X G (c.fact 3 (f := .glo "_law_signs") rfl)
  have g5 := He.glo_ok X G (c.fact 4 (f := .glo "_law_good") rfl)
  have e := hfa.symm.trans (He.glo_ok X G (c.fact 5 (f := .glo "law") rfl))
  cases e
  have hb : ∀ x ∈ bltNames, mg x = none := blt_free X G fun x hx => by
    obtain ⟨i, hi⟩ := List.getElem?_of_mem hx
    refine c.fact (9 + i) (f := .free x) ?_
    unfold fa
    rw [List.getElem?_append_right (by simp)]
    simp only [List.length_cons, List.length_nil, Nat.zero_add, Nat.reduceAdd, Nat.add_sub_cancel_left, List.getElem?_map, hi]
    rfl
  have b1 : Binds K fd1 ["text"] [] := F1.bindsN fun _ _ _ _ _ _ us hl => match us, hl with | [_], _ => rfl
  have b2 : Binds K fd2 ["_law_script"] [] := F2.bindsN fun _ _ _ _ _ _ us hl => match us, hl with | [_], _ => rfl
  have b3 : Binds K fd3 ["_law_state", "_law_size"] [] := F3.bindsN fun _ _ _ _ _ _ us hl => match us, hl with | [_, _], _ => rfl
  have b4 : Binds K fd4 [] [] := F4.bindsN fun _ _ _ _ _ _ us hl => match us, hl with | [], _ => rfl
  have b5 : Binds K fd5 ["_law_word"] [] := F5.bindsN fun _ _ _ _ _ _ us hl => match us, hl with | [_], _ => rfl
  have b6 := FunD.bindsA (ps := ["_law_script"]) F6 fun _ _ _ _ _ _ us hl => match us, hl with | [_], _ => rfl
  have kw1 : ∀ (s : Shared) (ws : List Value), ws.length = ["text"].length → BindsTo s fd1 ⟨[], (["text"] : List PySem.Str).zip ws⟩ ((["text"] : List PySem.Str).zip ws) := by
    intro s ws hl
    obtain ⟨oc, od, kV, doc, pm, an, cdv, ct, osl, rfl, lk, hcd⟩ := (fun_ofD (st := top 4) F1).ex
    match ws, hl with
    | [_], _ => exact .of_eq rfl
  refine ⟨fd6, fun s v => b6 s [v] rfl, fun base _ _ => ?_⟩
  have tv : Tab P w K mg base (fun _ => "") 0 [] gls G0 := by
    refine ⟨fun f x h => (by simp at h), hb, fun x d h => ?_⟩
    unfold gls at h
    by_cases e1 : x = "LETTERS"
    · subst e1
      cases h
      exact gl_str X G (c.fact 6 (f := .str "LETTERS" "abcdefghijklmnopqrstuvwxyz") rfl) (by decide +kernel) (by decide +kernel)
    · by_cases e2 : x = "DIGITS"
      · subst e2
        cases h
        exact gl_str X G (c.fact 7 (f := .str "DIGITS" "0123456789") rfl) (by decide +kernel) (by decide +kernel)
      · by_cases e3 : x = "LONGEST"
        · subst e3
          cases h
          exact gl_int X G (c.fact 8 (f := .int "LONGEST" 6) rfl)
        · exfalso
          simp only [List.lookup, beq_eq_false_iff_ne.mpr e1, beq_eq_false_iff_ne.mpr e2, beq_eq_false_iff_ne.mpr e3] at h
          cases h
  have k1 : FnOk P w K mg base (L2.CX P w) 1 _ fd1 ["text"] (spP K (fun _ => "") validS) := fn_pure (fun_ofD F1) sc_valid tv c_valid (fun ds Q E ⟨s, e, _⟩ => by rw [e]; rfl) fun ds Q E ⟨s, e, hl, hq⟩ => by rw [e]; exact d_valid s hl Q E hq
  have k5 : FnOk P w K mg base (L2.CX P w) 1 _ fd5 ["_law_word"] (spP K (fun _ => "") validS) := fn_pure (fun_ofD F5) sc_good (G0tab hb) c_good (fun ds Q E ⟨s, e, _⟩ => by rw [e]; rfl) fun ds Q E ⟨s, e, hl, hq⟩ => by rw [e]; exact d_good s hl Q E hq
  have k4 : FnOk P w K mg base (L2.CX P w) 1 _ fd4 [] (spP K (fun _ => "") signsS) := fn_pure (fun_ofD F4) sc_signs (G0tab hb) c_signs (fun ds Q E ⟨e, _⟩ => by rw [e]; rfl) fun ds Q E ⟨e, hq⟩ => by rw [e]; exact d_signs Q E hq
  have k2 : FnOk P w K mg base (L2.CX P w) 1 _ fd2 ["_law_script"] (spG K (fun _ => "") startS) := fn_gen (fun_ofD F2) sc_start (G0tab hb) c_start (fun ds m Q E ⟨ns, e, _⟩ => by rw [e]; rfl) d_start
  have k3 : FnOk P w K mg base (L2.CX P w) 1 _ fd3 ["_law_state", "_law_size"] (spG K (fun _ => "") drawS) := fn_gen (fun_ofD F3) sc_draw (G0tab hb) c_draw (fun ds m Q E ⟨_, _, _, _, e, _⟩ => by rw [e]; rfl) d_draw
  refine fn_gen (fun_ofD F6) sc_law ?_ c_law (fun ds m Q E ⟨ns, e, _⟩ => by rw [e]; rfl) d_law
  refine ⟨fun f x h => ?_, hb, fun x d h => (by cases h)⟩
  match f, h with
  | 0, h => cases h; exact ⟨_, rfl, fnT_kw (by simp) g1 F1.kp k1 (Nat.le_refl 1) (fun ds Q E ⟨s, e, _⟩ => by rw [e]; rfl) kw1⟩
  | 1, h => cases h; exact ⟨_, rfl, fnT_pos (f := .pure validS) g5 F5.kp k5 (Nat.le_refl 1) b5⟩
  | 2, h => cases h; exact ⟨_, rfl, fnT_pos (f := .pure validS) g1 F1.kp k1 (Nat.le_refl 1) b1⟩
  | 3, h => cases h; exact ⟨_, rfl, fnT_pos (f := .gen drawS) g3 F3.kp k3 (Nat.le_refl 1) b3⟩
  | 4, h => cases h; exact ⟨_, rfl, fnT_pos (f := .pure signsS) g4 F4.kp k4 (Nat.le_refl 1) b4⟩
  | 5, h => cases h; exact ⟨_, rfl, fnT_pos (f := .gen startS) g2 F2.kp k2 (Nat.le_refl 1) b2⟩
  | _ + 6, h => cases h
end K01
open PySem PySem.W PySem.Calls PyProof.Rows
theorem PySem.Challenge.cw_anyfactors_k01_valid_names_holds : PySem.Challenge.rw_anyfactors_k01_valid_names.Holds := by
  w_on; o_law
  refine HandSHeadRun.head_any (r := OpenLaw.row PySem.Challenge.rw_anyfactors_k01_valid_names) (q := view (OpenLaw.row PySem.Challenge.rw_anyfactors_k01_valid_names).prog [10]) (H := K01.hk) (ob := K01.ob) (M := 600) (loose := K01.loose) (d := HandSHeadRun.topDef (OpenLaw.row PySem.Challenge.rw_anyfactors_k01_valid_names).prog 10) (kwd := []) K01.ob_eq
    (by kernel_rfl) (fun s => by kernel_rfl) K01.run (by kernel_rfl) (by kernel_rfl) (by kernel_rfl) (by rfl) (by first | assumption | decide +kernel) (by decide +kernel) ⟨rfl, rfl, rfl, rfl, rfl, by decide +kernel⟩ ?hw ?hc
  case hw => w_witness2
  case hc =>
    refine DL.walk_D (l := PySem.Challenge.rw_anyfactors_k01_valid_names) (n := 63) (k := 2) (x := "_law_script") (s := K01.lawS) rfl (by decide) (by kernel_rfl) ⟨rfl, by decide, by decide⟩ (by decide) ?F (fun ns hl => ⟨ns, rfl, Nat.le_trans hl (by decide), fun _ => rfl⟩)
    intro w mg fa h Y G hmg0
    obtain ⟨K, KX, c⟩ := Y
    have hmg : mg ("law" : PySem.Str) = some (.ref fa) := by
      have e : (HandSHeadRun.topDef (OpenLaw.row PySem.Challenge.rw_anyfactors_k01_valid_names).prog 10).name = ("law" : PySem.Str) := by kernel_rfl
      rw [← e]
      exact hmg0
    obtain ⟨fd, hb, hF⟩ := K01.facts (P := (PySem.Challenge.rw_anyfactors_k01_valid_names).prog) (w := w) KX G hmg c
    exact ⟨K, fd, fun _ => "", KX, hb, hF⟩

