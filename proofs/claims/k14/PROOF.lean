import PyProof.Rows.All
import Wide.All
import OpenK.AllK
import Wide.FinOn
import PySem.Str
import HandS.Comp
import HandS.ForMost
import HandS.Exc
import HandS.More
import HandS.TupAny
import HandS.Strs
import HandS.IsInst
import HandS.Replace
import HandS.Zip
import HandS.Rev
import HandS.Style
import HandS.Codes
import HandS.TryOnly
import HandS.NoneIn
import HandS.Small
import HandS.Defaults
import HandS.HeadHook1
import HandS.HeadHook2
import KE.KStateDown
import HandS.Head0
import HandS.Head1
import HandS.Head2
import HandS.HeadEnd
import HandS.HeadHook3
import HandS.HeadHook4
import PySem.Challenge.RW_whatremains_k14_papers
set_option linter.all false
set_option autoImplicit false
/-! MP: a small Python over values, a store of lists, dicts and instances, and a def's code: what it comes to. -/
namespace MP
open PySem (Str)

/-- a value: tuples are values; lists, dicts, instances stand in the store; gd: a dict of the module, texts to texts; fro: a list that is only read (the script) -/
inductive W where
  | non | bl (b : Bool) | int (i : Int) | str (x : Str) | tup (ws : List W) | ref (n : Nat) | gd (kvs : List (Str × Str)) | fro (ws : List W)

mutual
def W.beq : W → W → Bool
  | .non, .non => true
  | .bl a, .bl b => a == b
  | .int a, .int b => a == b
  | .str a, .str b => a == b
  | .tup a, .tup b => W.beqs a b
  | .ref a, .ref b => a == b
  | .gd a, .gd b => a == b
  | .fro a, .fro b => W.beqs a b
  | _, _ => false
def W.beqs : List W → List W → Bool
  | [], [] => true
  | a :: r, b :: q => W.beq a b && W.beqs r q
  | _, _ => false
end

abbrev Key := Sum Int Str
inductive SO where
  | lst (ws : List W) | dic (kvs : List (Key × W)) | ins (c : Str) (fs : List (Str × W))

abbrev Store := List SO
abbrev Env := List (Option W)
/-- an exception: its class, its fields -/
structure Xc where
  cls : Str
  fs : List (Str × W)

inductive R (α : Type) where
  | ok (a : α) (st : Store) | exc (x : Xc) (st : Store) | bad

def R.bind {α β : Type} : R α → (α → Store → R β) → R β
  | .ok a st, f => f a st
  | .exc x st, _ => .exc x st
  | .bad, _ => .bad

def LIM : Nat := 16777216

inductive BOp where | add | sub | mul | mod | fdiv | pow
  deriving DecidableEq
inductive COp where | eq | ne | lt | le | gt | ge | is | isnot | isin | notin
  deriving DecidableEq
/-- builtin functions -/
inductive Blt where
  | len | int | str | tuple | list | dict | sorted | max | min | sum | abs | lenset
  deriving DecidableEq
/-- methods of builtin types -/
inductive Bmt where
  | append | pop | popAt | extend | clear | index | count | update | get | join | split
  deriving DecidableEq
/-- classes for isinstance -/
inductive Cl where
  | tuple | list | int | str | bool | own (c : Str)
  deriving DecidableEq

mutual
inductive Ex where
  | cst (w : W) | var (i : Nat) | glo (x : Str)
  | tup (es : Exs) | lst (es : Exs) | dic (ps : Prs)
  | bin (op : BOp) (a b : Ex) | neg (a : Ex)
  | not (a : Ex) | and (a b : Ex) | or (a b : Ex)
  | cmp (op : COp) (a b : Ex) | chn (op1 op2 : COp) (a b c : Ex)
  | ife (c a b : Ex)
  | ix (a b : Ex) | sl (a : Ex) (lo hi : Op) | rev (a : Ex)
  | fld (a : Ex) (f : Str)
  | call (f : Str) (es : Exs) | mak (c : Str) (es : Exs) | mth (a : Ex) (m : Str) (es : Exs)
  | gix (x : Str) (a : Ex) | blt (b : Blt) (es : Exs) | bmt (m : Bmt) (a : Ex) (es : Exs) | isi (a : Ex) (c : Cl)
  | lc (elt : Ex) (own : List Nat) (tg : Tg) (it : It) (cond : Op)
inductive Exs where
  | nil | cons (e : Ex) (es : Exs)
inductive Prs where
  | nil | cons (k v : Ex) (r : Prs)
inductive Op where
  | none | some (e : Ex)
inductive It where
  | seq (e : Ex) | range1 (a : Ex) | range2 (a b : Ex) | enum (e : Ex) | zip (a b : Ex)
inductive Tg where
  | name (i : Nat) | fld (o : Ex) (f : Str) | sub (o i : Ex) | tup (n : Nat) (ts : Tgs)
inductive Tgs where
  | nil | cons (t : Tg) (ts : Tgs)
end

mutual
inductive Sm where
  | asg (t : Tg) (e : Ex) | exp (e : Ex) | ret (e : Ex) | retN | pass
  | ite (c : Ex) (a b : Sms) | for (t : Tg) (it : It) (b : Sms) | whl (c : Ex) (b : Sms)
  | rai (c : Str) (es : Exs)
inductive Sms where
  | nil | cons (s : Sm) (r : Sms)
end

/-- a def's code: how many parameters, how many names, the body -/
structure Df where
  ps : Nat
  n : Nat
  body : Sms

/-! ### operations on values -/
def smul (i j : Int) : Bool := (decide (-(2 ^ 64) < i) && decide (i < 2 ^ 64)) || (decide (-(2 ^ 64) < j) && decide (j < 2 ^ 64))
def repS (x : Str) (n : Nat) : Str := ⟨((List.replicate n x.cps.toList).flatten).toArray⟩
def bop : BOp → W → W → Store → R W
  | .add, .int i, .int j, st => .ok (.int (i + j)) st
  | .add, .str x, .str y, st => if x.length + y.length ≤ LIM then .ok (.str (x ++ y)) st else .bad
  | .add, .tup a, .tup b, st => if a.length + b.length ≤ LIM then .ok (.tup (a ++ b)) st else .bad
  | .add, .ref m, .ref n, st => (match st[m]?, st[n]? with
    | some (.lst a), some (.lst b) => if a.length + b.length ≤ LIM then .ok (.ref st.length) (st ++ [.lst (a ++ b)]) else .bad
    | _, _ => .bad)
  | .sub, .int i, .int j, st => .ok (.int (i - j)) st
  | .mul, .int i, .int j, st => if smul i j then .ok (.int (i * j)) st else .bad
  | .mul, .ref m, .int j, st => (match st[m]? with
    | some (.lst a) => if a.length * j.toNat ≤ LIM ∧ -(2 ^ 63) ≤ j ∧ j < 2 ^ 63 then .ok (.ref st.length) (st ++ [.lst (List.replicate j.toNat a).flatten]) else .bad
    | _ => .bad)
  | .mod, .int i, .int j, st => if 0 < j then .ok (.int (i % j)) st else .bad
  | .fdiv, .int i, .int j, st => if 0 < j ∧ j < 1073741824 then .ok (.int (i / j)) st else .bad
  | .pow, .int i, .int j, st => if 0 ≤ j ∧ j ≤ 1000000 ∧ i.natAbs < 2 ^ 64 then .ok (.int (i ^ j.toNat)) st else .bad
  | _, _, _, _ => .bad

/-! ### data: for == -/
inductive D where
  | non | bl (b : Bool) | int (i : Int) | str (x : Str) | tup (ds : List D) | lst (ds : List D)
mutual
def D.eqv : D → D → Bool
  | .non, .non => true
  | .bl a, .bl b => a == b
  | .bl a, .int j => (if a then 1 else 0) == j
  | .int i, .bl b => i == (if b then 1 else 0)
  | .int i, .int j => i == j
  | .str x, .str y => x == y
  | .tup a, .tup b => D.eqvs a b
  | .lst a, .lst b => D.eqvs a b
  | _, _ => false
def D.eqvs : List D → List D → Bool
  | [], [] => true
  | x :: xs, y :: ys => D.eqv x y && D.eqvs xs ys
  | _, _ => false
end
def mapO {α β : Type} (f : α → Option β) : List α → Option (List β)
  | [] => some []
  | a :: r => match f a, mapO f r with
    | some b, some s => some (b :: s)
    | _, _ => none
def okS (x : Str) : Bool := x.cps.all (· < 0x110000)
/-- a value as data, no deeper than n -/
def toD (st : Store) : Nat → W → Option D
  | _, .non => some .non
  | _, .bl b => some (.bl b)
  | _, .int i => some (.int i)
  | _, .str x => if okS x then some (.str x) else none
  | 0, _ => none
  | n + 1, .tup ws => (mapO (toD st n) ws).map .tup
  | n + 1, .fro ws => (mapO (toD st n) ws).map .lst
  | n + 1, .ref r => (match st[r]? with
    | some (.lst ws) => (mapO (toD st n) ws).map .lst
    | _ => none)
  | _ + 1, .gd _ => none
def eqW (st : Store) (a b : W) : Option Bool := match toD st 60 a, toD st 60 b with
  | some d, some e => some (d.eqv e)
  | _, _ => none
def flatW : W → Bool
  | .non | .bl _ | .int _ | .str _ => true
  | _ => false
/-- == of flat values -/
def eqF : W → W → Bool
  | .non, .non => true
  | .bl a, .bl b => a == b
  | .bl a, .int j => (if a then 1 else 0) == j
  | .int i, .bl b => i == (if b then 1 else 0)
  | .int i, .int j => i == j
  | .str x, .str y => x == y
  | _, _ => false
def inF (x : W) (ws : List W) : Option Bool := if flatW x && ws.all flatW then some (ws.any fun y => eqF y x) else none
/-- .. of any data -/
def inD (st : Store) (x y : W) : Option Bool := match toD st 60 x, toD st 60 y with
  | some d, some (.tup ds) => some (ds.any fun z => z.eqv d)
  | some d, some (.lst ds) => some (ds.any fun z => z.eqv d)
  | _, _ => none
def orB (a b : Option Bool) : Option Bool := match a with
  | some r => some r
  | none => b
def isin (x y : W) (st : Store) : Option Bool := match y with
  | .tup ws => orB (inF x ws) (inD st x (.tup ws))
  | .fro ws => orB (inF x ws) (inD st x (.fro ws))
  | .ref r => (match st[r]? with
    | some (.lst ws) => orB (inF x ws) (inD st x (.ref r))
    | _ => none)
  | .gd kvs => (match x with
    | .str s => some (kvs.any fun p => decide (p.1 = s))
    | _ => none)
  | .str z => (match x with
    | .str s => if s.length = 1 then some (decide (s.cps.getD 0 0 ∈ z.cps.toList)) else none
    | _ => none)
  | _ => none
def isNil : W → Bool
  | .non => true
  | _ => false
def cmpI (f : Int → Int → Bool) (x y : W) (st : Store) : R W := match x, y with
  | .int i, .int j => .ok (.bl (f i j)) st
  | _, _ => .bad
def cop (op : COp) (x y : W) (st : Store) : R W := match op with
  | .eq => (match eqW st x y with | some b => .ok (.bl b) st | none => .bad)
  | .ne => (match eqW st x y with | some b => .ok (.bl (!b)) st | none => .bad)
  | .lt => cmpI (fun i j => decide (i < j)) x y st
  | .le => cmpI (fun i j => decide (i ≤ j)) x y st
  | .gt => cmpI (fun i j => decide (j < i)) x y st
  | .ge => cmpI (fun i j => decide (j ≤ i)) x y st
  | .is => (match y with | .non => .ok (.bl (isNil x)) st | _ => .bad)
  | .isnot => (match y with | .non => .ok (.bl (!isNil x)) st | _ => .bad)
  | .isin => (match isin x y st with | some b => .ok (.bl b) st | none => .bad)
  | .notin => (match isin x y st with | some b => .ok (.bl (!b)) st | none => .bad)

/-- the place that an index of any sign means -/
def place (n : Nat) (i : Int) : Option Nat := if 0 ≤ i then (if i < n then some i.toNat else none) else if -(n : Int) ≤ i then some (i + n).toNat else none
def at? {α : Type} (xs : List α) (i : Int) : Option α := (place xs.length i).bind fun j => xs[j]?
def kget (kvs : List (Key × W)) (k : Key) : Option W := (kvs.find? fun p => decide (p.1 = k)).map (·.2)
def kput (kvs : List (Key × W)) (k : Key) (w : W) : List (Key × W) :=
  if (kvs.any fun p => decide (p.1 = k)) = true then kvs.map (fun p => if p.1 = k then (p.1, w) else p) else kvs ++ [(k, w)]
def keyW : W → Option Key
  | .int i => some (.inl i)
  | .str s => some (.inr s)
  | _ => none
def oR {α : Type} (o : Option α) (st : Store) : R α := match o with
  | some a => .ok a st
  | none => .bad
def ixW (x y : W) (st : Store) : R W := match x with
  | .fro ws => (match y with | .int i => oR (at? ws i) st | _ => .bad)
  | .tup ws => (match y with | .int i => oR (at? ws i) st | _ => .bad)
  | .str z => (match y with | .int i => if z.length ≤ LIM then oR ((at? z.cps.toList i).map fun c => W.str ⟨#[c]⟩) st else .bad | _ => .bad)
  | .gd kvs => (match y with | .str s => oR ((kvs.find? fun p => decide (p.1 = s)).map fun p => W.str p.2) st | _ => .bad)
  | .ref r => (match st[r]? with
    | some (.lst ws) => (match y with | .int i => oR (at? ws i) st | _ => .bad)
    | some (.dic kvs) => (match keyW y with | some k => oR (kget kvs k) st | none => .bad)
    | _ => .bad)
  | _ => .bad
/-- a slice's bound as a place among n -/
def sIx (n d : Nat) : Option Int → Nat
  | none => d
  | some v => if v < 0 then (v + (n : Int)).toNat else min v.toNat n
def cut {α : Type} (xs : List α) (lo hi : Option Int) : List α := (xs.drop (sIx xs.length 0 lo)).take (sIx xs.length xs.length hi - sIx xs.length 0 lo)
def slW (x : W) (lo hi : Option Int) (st : Store) : R W := match x with
  | .fro ws => .ok (.ref st.length) (st ++ [.lst (cut ws lo hi)])
  | .tup ws => .ok (.tup (cut ws lo hi)) st
  | .str z => if z.length ≤ LIM then .ok (.str ⟨(cut z.cps.toList lo hi).toArray⟩) st else .bad
  | .ref r => (match st[r]? with
    | some (.lst ws) => .ok (.ref st.length) (st ++ [.lst (cut ws lo hi)])
    | _ => .bad)
  | _ => .bad
def revW (x : W) (st : Store) : R W := match x with
  | .ref r => (match st[r]? with
    | some (.lst ws) => .ok (.ref st.length) (st ++ [.lst ws.reverse])
    | _ => .bad)
  | _ => .bad
def fget (fs : List (Str × W)) (f : Str) : Option W := (fs.find? fun p => decide (p.1 = f)).map (·.2)
def fput (fs : List (Str × W)) (f : Str) (w : W) : List (Str × W) := match fs with
  | [] => [(f, w)]
  | p :: r => if p.1 = f then (p.1, w) :: r else p :: fput r f w
def seqOf (w : W) (st : Store) : Option (List W) := match w with
  | .fro ws => some ws
  | .tup ws => some ws
  | .ref r => (match st[r]? with
    | some (.lst ws) => some ws
    | _ => none)
  | _ => none
def allInts : List W → Option (List Int)
  | [] => some []
  | .int i :: r => (allInts r).map (i :: ·)
  | _ => none
def allStrs : List W → Option (List Str)
  | [] => some []
  | .str i :: r => (allStrs r).map (i :: ·)
  | _ => none
def maxL : List Int → Int
  | [] => 0
  | [a] => a
  | a :: r => let m := maxL r; if a < m then m else a
def minL : List Int → Int
  | [] => 0
  | [a] => a
  | a :: r => let m := minL r; if m < a then m else a
end MP


set_option linter.all false
set_option autoImplicit false
namespace MP
open PySem (Str)

/-- where a def stands: a global's name; a class and its method -/
abbrev FK := Str × Option Str
structure Prog where
  fns : List (FK × Df)
  flds : List (Str × List Str)
  glos : List (Str × W)
  /-- a bound of a while's turns -/
  turns : Nat
def lookK : List (FK × Df) → FK → Option Df
  | [], _ => none
  | p :: r, k => if p.1 = k then some p.2 else lookK r k
def Prog.fn (P : Prog) (k : FK) : Option Df := lookK P.fns k
def lookS {α : Type} : List (Str × α) → Str → Option α
  | [], _ => none
  | p :: r, k => if p.1 = k then some p.2 else lookS r k

abbrev Call := FK → List W → Store → R W

/-- a class's own isinstance -/
def isiW (x : W) (c : Cl) (st : Store) : Option Bool := match x with
  | .non => (match c with | .own _ => some false | _ => some false)
  | .bl _ => (match c with | .bool => some true | .int => some true | _ => some false)
  | .int _ => (match c with | .int => some true | _ => some false)
  | .str _ => (match c with | .str => some true | _ => some false)
  | .tup _ => (match c with | .tuple => some true | _ => some false)
  | .ref r => (match st[r]? with
    | some (.lst _) => (match c with | .list => some true | .own _ => none | _ => some false)
    | _ => none)
  | .gd _ => none
  | .fro _ => (match c with | .list => some true | .own _ => none | _ => some false)

def ltL : List Nat → List Nat → Bool
  | [], [] => false
  | [], _ :: _ => true
  | _ :: _, [] => false
  | a :: r, b :: t => decide (a < b) || (a == b && ltL r t)
def leS (a b : List Nat) : Bool := !ltL b a
def insS (x : Str) : List Str → List Str
  | [] => [x]
  | y :: r => if leS x.cps.toList y.cps.toList then x :: y :: r else y :: insS x r
def sortS : List Str → List Str
  | [] => []
  | x :: r => insS x (sortS r)
def insI (x : Int) : List Int → List Int
  | [] => [x]
  | y :: r => if x ≤ y then x :: y :: r else y :: insI x r
def sortI : List Int → List Int
  | [] => []
  | x :: r => insI x (sortI r)
def keysS : List (Key × W) → Option (List Str)
  | [] => some []
  | (.inr x, _) :: r => (keysS r).map (x :: ·)
  | _ => none
def keysI : List (Key × W) → Option (List Int)
  | [] => some []
  | (.inl x, _) :: r => (keysI r).map (x :: ·)
  | _ => none
/-- the pairs of a list of tuples of two, the first a key -/
def pairsOf : List W → Option (List (Key × W))
  | [] => some []
  | .tup [a, b] :: r => (match keyW a, pairsOf r with
    | some k, some s => some ((k, b) :: s)
    | _, _ => none)
  | _ => none
def mergeW (kvs more : List (Key × W)) : List (Key × W) := more.foldl (fun acc kv => kput acc kv.1 kv.2) kvs
def new (o : SO) (st : Store) : R W := .ok (.ref st.length) (st ++ [o])
/-- the distinct texts -/
def dStep (acc : List Str) (x : Str) : List Str := if acc.any (· == x) then acc else acc ++ [x]
def dl (xs : List Str) : List Str := xs.foldl dStep []
/-- builtin functions -/
def bltW (b : Blt) (ws : List W) (st : Store) : R W := match b, ws with
  | .len, [.str z] => if z.length ≤ LIM then .ok (.int z.length) st else .bad
  | .len, [w] => oR ((seqOf w st).map fun l => W.int l.length) st
  | .int, [.int i] => .ok (.int i) st
  | .int, [.bl b] => .ok (.int (if b then 1 else 0)) st
  | .tuple, [w] => oR ((seqOf w st).map W.tup) st
  | .list, [w] => (match seqOf w st with | some l => new (.lst l) st | none => .bad)
  | .dict, [.ref r] => (match st[r]? with
    | some (.dic kvs) => new (.dic kvs) st
    | some (.lst ws) => (match pairsOf ws with | some kvs => new (.dic (mergeW [] kvs)) st | none => .bad)
    | _ => .bad)
  | .sorted, [.ref r] => (match st[r]? with
    | some (.dic kvs) => (match keysS kvs with
      | some ks => if ks.length < 64 then new (.lst ((sortS ks).map .str)) st else .bad
      | none => (match keysI kvs with
        | some ks => if ks.length < 64 then new (.lst ((sortI ks).map .int)) st else .bad
        | none => .bad))
    | _ => .bad)
  | .max, [.int i, .int j] => .ok (.int (if j > i then j else i)) st
  | .min, [.int i, .int j] => .ok (.int (if j < i then j else i)) st
  | .max, [w] => (match (seqOf w st).bind allInts, w with
    | some (i :: l), .ref _ => .ok (.int (maxL (i :: l))) st
    | _, _ => .bad)
  | .min, [w] => (match (seqOf w st).bind allInts, w with
    | some (i :: l), .ref _ => .ok (.int (minL (i :: l))) st
    | _, _ => .bad)
  | .sum, [w] => (match (seqOf w st).bind allInts, w with
    | some l, .ref _ => .ok (.int l.sum) st
    | _, _ => .bad)
  | .abs, [.int i] => .ok (.int (if i < 0 then -i else i)) st
  | .lenset, [.ref r] => (match st[r]? with
    | some (.lst l) => (match allStrs l with
      | some xs => if xs.length < 4000 then .ok (.int (dl xs).length) st else .bad
      | none => .bad)
    | _ => .bad)
  | _, _ => .bad
def idxF (x : W) : List W → Option Nat
  | [] => none
  | y :: r => if eqF y x then some 0 else (idxF x r).map (· + 1)
def rot8 : Str := "bcdefgha"
def rot8s : List Str := ["b", "c", "d", "e", "f", "g", "h", "a"]
def idx8 (x : Str) : List Str → Option Nat
  | [] => none
  | y :: r => if y = x then some 0 else (idx8 x r).map (· + 1)
def kindW (x : W) (st : Store) : Nat := match x with
  | .ref r => (match st[r]? with
    | some (.lst _) => 1
    | some (.dic _) => 2
    | _ => 0)
  | .str _ => 3
  | _ => 0
/-- methods of builtin types -/
def bmtW (m : Bmt) (x : W) (ws : List W) (st : Store) : R W := match x with
  | .ref r => (match st[r]? with
    | some (.lst l) => (match m, ws with
      | .append, [y] => if l.length < LIM then .ok .non (st.set r (.lst (l ++ [y]))) else .bad
      | .pop, [] => (match l.getLast? with | some y => .ok y (st.set r (.lst l.dropLast)) | none => .bad)
      | .popAt, [.int i] => if i = 0 then (match l with | y :: q => .ok y (st.set r (.lst q)) | [] => .bad) else .bad
      | .extend, [.ref q] => (match st[q]? with
        | some (.lst z) => if l.length + z.length ≤ LIM then .ok .non (st.set r (.lst (l ++ z))) else .bad
        | _ => .bad)
      | .clear, [] => .ok .non (st.set r (.lst []))
      | .index, [y] => if flatW y && l.all flatW then oR ((idxF y l).map fun (j : Nat) => W.int j) st else .bad
      | _, _ => .bad)
    | some (.dic kvs) => (match m, ws with
      | .update, [.ref q] => (match st[q]? with
        | some (.dic more) => if r ≠ q ∧ kvs.length + more.length ≤ LIM then .ok .non (st.set r (.dic (mergeW kvs more))) else .bad
        | _ => .bad)
      | .get, [k] => (match keyW k with | some k => .ok ((kget kvs k).getD .non) st | none => .bad)
      | .get, [k, d] => (match keyW k with | some k => .ok ((kget kvs k).getD d) st | none => .bad)
      | _, _ => .bad)
    | _ => .bad)
  | .str z => (match m, ws with
    | .index, [.str y] => if z = rot8 then oR ((idx8 y rot8s).map fun (j : Nat) => W.int j) st else .bad
    | _, _ => .bad)
  | _ => .bad

/-- x[y] = w -/
def setW (x y w : W) (st : Store) : R Unit := match x with
  | .ref r => (match st[r]? with
    | some (.lst l) => (match y with
      | .int k => (match place l.length k with | some j => .ok () (st.set r (.lst (l.set j w))) | none => .bad)
      | _ => .bad)
    | some (.dic kvs) => (match keyW y with
      | some k => if kvs.length < LIM then .ok () (st.set r (.dic (kput kvs k w))) else .bad
      | none => .bad)
    | _ => .bad)
  | _ => .bad
/-- what a statement leaves -/
inductive RS where
  | nx (ρ : Env) (st : Store) | ret (w : W) (st : Store) | exc (x : Xc) (st : Store) | bad
def RS.bind : RS → (Env → Store → RS) → RS
  | .nx ρ st, f => f ρ st
  | .ret w st, _ => .ret w st
  | .exc x st, _ => .exc x st
  | .bad, _ => .bad
def R.bindS {α : Type} : R α → (α → Store → RS) → RS
  | .ok a st, f => f a st
  | .exc x st, _ => .exc x st
  | .bad, _ => .bad
def R.test {β : Type} (r : R W) (f : Bool → Store → R β) : R β := r.bind fun w st => match w with
  | .bl b => f b st
  | _ => .bad
/-- what a for walks: the items, the list that must stay as it is -/
structure Walk where
  items : List W
  stays : List (Nat × List W)
def Walk.holds (k : Walk) (st : Store) : Bool := k.stays.all fun p => match st[p.1]? with
  | some (.lst l) => W.beqs l p.2
  | _ => false
def walkOf (w : W) (st : Store) : Option Walk := match w with
  | .fro l => some ⟨l, []⟩
  | .tup l => some ⟨l, []⟩
  | .str z => if z.length ≤ LIM then some ⟨z.cps.toList.map fun c => .str ⟨#[c]⟩, []⟩ else none
  | .ref r => (match st[r]? with
    | some (.lst l) => some ⟨l, [(r, l)]⟩
    | _ => none)
  | _ => none
def enumL : Nat → List W → List W
  | _, [] => []
  | n, a :: r => .tup [.int n, a] :: enumL (n + 1) r
def zipL : List W → List W → List W
  | a :: r, b :: q => .tup [a, b] :: zipL r q
  | _, _ => []
def loopF (k : Walk) (body : W → Env → Store → RS) : List W → Env → Store → RS
  | [], ρ, st => if k.holds st then .nx ρ st else .bad
  | w :: r, ρ, st => if k.holds st then (body w ρ st).bind fun ρ' st' => loopF k body r ρ' st' else .bad
def loopW (c : Env → Store → R W) (body : Env → Store → RS) : Nat → Env → Store → RS
  | 0, _, _ => .bad
  | n + 1, ρ, st => (c ρ st).bindS fun w st1 => match w with
    | .bl true => (body ρ st1).bind fun ρ2 st2 => loopW c body n ρ2 st2
    | .bl false => .nx ρ st1
    | _ => .bad
/-- a comprehension: turn gives none where the test fails -/
def loopC (k : Walk) (turn : W → Store → R (Option W)) : List W → List W → Store → R (List W)
  | [], acc, st => if k.holds st then .ok acc st else .bad
  | w :: r, acc, st => if k.holds st then (turn w st).bind fun o st' => (match o with
    | some y => if acc.length < LIM then loopC k turn r (acc ++ [y]) st' else .bad
    | none => loopC k turn r acc st') else .bad
def wipe (ρ : Env) : List Nat → Env
  | [] => ρ
  | i :: r => (wipe ρ r).set i none

section
variable (P : Prog) (call : Call)
mutual
def evE : Ex → Env → Store → R W
  | .cst w, _, st => .ok w st
  | .var i, ρ, st => (match ρ[i]? with | some (some w) => .ok w st | _ => .bad)
  | .glo x, _, st => oR (lookS P.glos x) st
  | .tup es, ρ, st => (evEs es ρ st).bind fun ws st => if ws.length ≤ LIM then .ok (.tup ws) st else .bad
  | .lst es, ρ, st => (evEs es ρ st).bind fun ws st => if ws.length ≤ LIM then new (.lst ws) st else .bad
  | .dic ps, ρ, st => (evPs ps ρ st).bind fun kvs st => if kvs.length ≤ 15 then new (.dic (mergeW [] kvs)) st else .bad
  | .bin op a b, ρ, st => (evE a ρ st).bind fun x st => (evE b ρ st).bind fun y st => bop op x y st
  | .neg a, ρ, st => (evE a ρ st).bind fun x st => (match x with | .int i => .ok (.int (-i)) st | _ => .bad)
  | .not a, ρ, st => (evE a ρ st).test fun b st => .ok (.bl (!b)) st
  | .and a b, ρ, st => (evE a ρ st).test fun c st => if c then (evE b ρ st).test fun d st => .ok (.bl d) st else .ok (.bl false) st
  | .or a b, ρ, st => (evE a ρ st).test fun c st => if c then .ok (.bl true) st else (evE b ρ st).test fun d st => .ok (.bl d) st
  | .cmp op a b, ρ, st => (evE a ρ st).bind fun x st => (evE b ρ st).bind fun y st => cop op x y st
  | .chn o1 o2 a b c, ρ, st => (evE a ρ st).bind fun x st => (evE b ρ st).bind fun y st => (cop o1 x y st).test fun k st => if k then (evE c ρ st).bind fun z st => cop o2 y z st else .ok (.bl false) st
  | .ife c a b, ρ, st => (evE c ρ st).test fun k st => if k then evE a ρ st else evE b ρ st
  | .ix a b, ρ, st => (evE a ρ st).bind fun x st => (evE b ρ st).bind fun y st => ixW x y st
  | .sl a lo hi, ρ, st => (evE a ρ st).bind fun x st => (evO lo ρ st).bind fun l st => (evO hi ρ st).bind fun h st => slW x l h st
  | .rev a, ρ, st => (evE a ρ st).bind fun x st => revW x st
  | .fld a f, ρ, st => (evE a ρ st).bind fun x st => (match x with
    | .ref r => (match st[r]? with
      | some (.ins c fs) => if ((lookS P.flds c).getD []).contains f then oR (fget fs f) st else .bad
      | _ => .bad)
    | _ => .bad)
  | .call f es, ρ, st => (evEs es ρ st).bind fun ws st => call (f, none) ws st
  | .mak c es, ρ, st => (evEs es ρ st).bind fun ws st => (call (c, some "__init__") (.ref st.length :: ws) (st ++ [.ins c []])).bind fun v st' => (match v with | .non => .ok (.ref st.length) st' | _ => .bad)
  | .mth a m es, ρ, st => (evE a ρ st).bind fun x st => (match x with
    | .ref r => (match st[r]? with
      | some (.ins c fs) => if fget fs m = none ∧ m ≠ "__init__" then (evEs es ρ st).bind fun ws st => call (c, some m) (.ref r :: ws) st else .bad
      | _ => .bad)
    | _ => .bad)
  | .blt b es, ρ, st => (evEs es ρ st).bind fun ws st => bltW b ws st
  | .gix x a, ρ, st => (evE a ρ st).bind fun w st => (match lookS P.glos x, w with
    | some (.tup l), .str z => (match allStrs l with
      | some q => oR ((idx8 z q).map fun (j : Nat) => W.int j) st
      | none => .bad)
    | _, _ => .bad)
  | .bmt m a es, ρ, st => (evE a ρ st).bind fun x st => (evEs es ρ st).bind fun ws st1 => if kindW x st1 = kindW x st then bmtW m x ws st1 else .bad
  | .isi a c, ρ, st => (evE a ρ st).bind fun x st => oR ((isiW x c st).map W.bl) st
  | .lc elt own tg it cond, ρ, st => (evI it ρ st).bind fun k st => (loopC k (fun w st => (evG tg w (wipe ρ own) st).bind fun ρ' st => (evC cond ρ' st).bind fun b st => if b then (evE elt ρ' st).bind fun y st => .ok (some y) st else .ok none st) k.items [] st).bind fun ws st => new (.lst ws) st
def evEs : Exs → Env → Store → R (List W)
  | .nil, _, st => .ok [] st
  | .cons e es, ρ, st => (evE e ρ st).bind fun w st => (evEs es ρ st).bind fun ws st => .ok (w :: ws) st
def evPs : Prs → Env → Store → R (List (Key × W))
  | .nil, _, st => .ok [] st
  | .cons k v r, ρ, st => (evE k ρ st).bind fun x st => (evE v ρ st).bind fun w st => (evPs r ρ st).bind fun r st => (match keyW x with | some k => .ok ((k, w) :: r) st | none => .bad)
def evO : Op → Env → Store → R (Option Int)
  | .none, _, st => .ok none st
  | .some e, ρ, st => (evE e ρ st).bind fun w st => (match w with | .int i => .ok (some i) st | _ => .bad)
def evC : Op → Env → Store → R Bool
  | .none, _, st => .ok true st
  | .some e, ρ, st => (evE e ρ st).test fun b st => .ok b st
def evI : It → Env → Store → R Walk
  | .seq e, ρ, st => (evE e ρ st).bind fun w st => oR (walkOf w st) st
  | .range1 a, ρ, st => (evE a ρ st).bind fun w st => (match w with
    | .int j => if -(2 ^ 62) ≤ j ∧ j < 2 ^ 62 then .ok ⟨(List.range j.toNat).map fun (i : Nat) => .int i, []⟩ st else .bad
    | _ => .bad)
  | .range2 a b, ρ, st => (evE a ρ st).bind fun v st => (evE b ρ st).bind fun w st => (match v, w with
    | .int i, .int j => if -(2 ^ 62) ≤ i ∧ i < 2 ^ 62 ∧ -(2 ^ 62) ≤ j ∧ j < 2 ^ 62 then .ok ⟨(List.range (j - i).toNat).map fun (k : Nat) => .int (i + k), []⟩ st else .bad
    | _, _ => .bad)
  | .enum e, ρ, st => (evE e ρ st).bind fun w st => (match w, walkOf w st with
    | .ref _, some k => .ok ⟨enumL 0 k.items, k.stays⟩ st
    | _, _ => .bad)
  | .zip a b, ρ, st => (evE a ρ st).bind fun v st => (evE b ρ st).bind fun w st => (match v, w, walkOf v st, walkOf w st with
    | .ref _, .ref _, some k, some l => .ok ⟨zipL k.items l.items, k.stays ++ l.stays⟩ st
    | _, _, _, _ => .bad)
/-- a target takes a value -/
def evG : Tg → W → Env → Store → R Env
  | .name i, w, ρ, st => .ok (ρ.set i (some w)) st
  | .fld o f, w, ρ, st => (evE o ρ st).bind fun x st => (match x with
    | .ref r => (match st[r]? with
      | some (.ins c fs) => if ((lookS P.flds c).getD []).contains f ∧ fs.length < 900 then .ok ρ (st.set r (.ins c (fput fs f w))) else .bad
      | _ => .bad)
    | _ => .bad)
  | .sub o i, w, ρ, st => (evE o ρ st).bind fun x st => (evE i ρ st).bind fun y st => (setW x y w st).bind fun _ st => .ok ρ st
  | .tup n ts, w, ρ, st => (match seqOf w st with
    | some ws => if ws.length = n then evGs ts ws ρ st else .bad
    | none => .bad)
def evGs : Tgs → List W → Env → Store → R Env
  | .nil, [], ρ, st => .ok ρ st
  | .cons t ts, w :: ws, ρ, st => (evG t w ρ st).bind fun ρ st => evGs ts ws ρ st
  | _, _, _, _ => .bad
end
mutual
def evS : Sm → Env → Store → RS
  | .asg t e, ρ, st => (evE P call e ρ st).bindS fun w st => (evG P call t w ρ st).bindS fun ρ' st => .nx ρ' st
  | .exp e, ρ, st => (evE P call e ρ st).bindS fun _ st => .nx ρ st
  | .ret e, ρ, st => (evE P call e ρ st).bindS fun w st => .ret w st
  | .retN, _, st => .ret .non st
  | .pass, ρ, st => .nx ρ st
  | .ite c a b, ρ, st => (evE P call c ρ st).bindS fun w st => (match w with
    | .bl true => evB a ρ st
    | .bl false => evB b ρ st
    | _ => .bad)
  | .for t it b, ρ, st => (evI P call it ρ st).bindS fun k st => loopF k (fun w ρ st => (evG P call t w ρ st).bindS fun ρ' st => evB b ρ' st) k.items ρ st
  | .whl c b, ρ, st => loopW (evE P call c) (fun ρ st => evB b ρ st) P.turns ρ st
  | .rai c es, ρ, st => .bad
def evB : Sms → Env → Store → RS
  | .nil, ρ, st => .nx ρ st
  | .cons s r, ρ, st => (evS s ρ st).bind fun ρ st => evB r ρ st
end
end
/-- a def's body, with its parameters' values -/
def runD (P : Prog) (call : Call) (d : Df) (ws : List W) (st : Store) : R W :=
  if ws.length = d.ps then (match evB P call d.body (ws.map some ++ List.replicate (d.n - d.ps) none) st with
    | .nx _ st => .ok .non st
    | .ret w st => .ok w st
    | .exc x st => .exc x st
    | .bad => .bad)
  else .bad
def isInit (f : FK) : Bool := match f.2 with
  | some m => decide (m = "__init__")
  | none => false
def callF (P : Prog) : Nat → Call
  | 0, _, _, _ => .bad
  | 1, f, ws, st => if isInit f then .bad else (match P.fn f with
    | some d => runD P (callF P 0) d ws st
    | none => .bad)
  | k + 2, f, ws, st => (match P.fn f with
    | some d => if isInit f then runD P (callF P k) d ws st else runD P (callF P (k + 1)) d ws st
    | none => .bad)
end MP


set_option linter.all false
set_option autoImplicit false
/-! TR: the code of a def's text. -/
namespace MP
open PySem (Str Scope NameKind Pos Const Expr Stmt Operator CmpOp Comprehension)
/-- a block: the def's names, the scope, the cells that may be stored -/
structure SC where
  N : List Str
  esc : Scope
  own : Str → Bool
/-- what never comes to a value -/
def bdE : Ex := .neg (.cst .non)
def bdS : Sm := .exp bdE
def bdG : Tg := .fld bdE ""
def nSet : Expr → Bool
  | .Set .. => false
  | _ => true
def nComp : Expr → Bool
  | .ListComp .. => false
  | .SetComp .. => false
  | .DictComp .. => false
  | _ => true
def nSlice : Expr → Bool
  | .Slice .. => false
  | _ => true
/-- no super() -/
def nSup : Expr → Bool
  | .Call (.Name x _) [] [] _ => !(x == "super")
  | _ => true
def nTup : Expr → Bool
  | .Tuple .. => false
  | _ => true
def nStar : Expr → Bool
  | .Starred .. => false
  | _ => true
def nTL : Expr → Bool
  | .Tuple .. => false
  | .List .. => false
  | _ => true
def bopOf : Operator → Option BOp
  | .Add => some .add | .Sub => some .sub | .Mult => some .mul | .Mod => some .mod | .FloorDiv => some .fdiv | .Pow => some .pow
  | _ => none
def copOf : CmpOp → Option COp
  | .Eq => some .eq | .NotEq => some .ne | .Lt => some .lt | .LtE => some .le | .Gt => some .gt | .GtE => some .ge | .Is => some .is | .IsNot => some .isnot | .In => some .isin | .NotIn => some .notin
def okN (x : Str) : Bool := !(x == "__debug__") && !(x == "__classdict__") && !(x == "__name__")
def vis (S : SC) (x : Str) : Bool := match S.esc.names.lookup x with
  | some .local => true
  | some .cell => true
  | some .free => true
  | _ => false
def glb (S : SC) (x : Str) : Bool := match S.esc.names.lookup x with
  | some .globalImplicit => true
  | _ => false
/-- a name that one may store -/
def sto (S : SC) (x : Str) : Bool := match S.esc.names.lookup x with
  | some .local => true
  | some .cell => S.own x
  | _ => false
def bltOf (x : Str) : Option Blt :=
  if x = "len" then some .len else if x = "int" then some .int else if x = "tuple" then some .tuple else if x = "list" then some .list else if x = "dict" then some .dict else if x = "sorted" then some .sorted
  else if x = "max" then some .max else if x = "min" then some .min else if x = "sum" then some .sum else if x = "abs" then some .abs else none
def bmtOf (x : Str) (n : Nat) : Option Bmt :=
  if x = "append" then some .append else if x = "pop" then some (if n = 0 then .pop else .popAt) else if x = "extend" then some .extend else if x = "clear" then some .clear else if x = "index" then some .index
  else if x = "count" then some .count else if x = "update" then some .update else if x = "get" then some .get else none
def clOf (x : Str) : Option Cl :=
  if x = "tuple" then some .tuple else if x = "list" then some .list else if x = "int" then some .int else if x = "str" then some .str else if x = "bool" then some .bool else none
def ownOf (N : List Str) (sc : Scope) : List (Str × Nat) := sc.names.filterMap fun y => match y.2 with
  | .local => (idx8 y.1 N).map fun i => (y.1, i)
  | .cell => (idx8 y.1 N).map fun i => (y.1, i)
  | _ => none
/-- len(set(a)) -/
def lenSet (b : Blt) (es : List Expr) : Option (Str × Expr) := match b, es with
  | .len, [.Call (.Name y _) [a] [] _] => some (y, a)
  | _, _ => none
/-- y.index(a), y a name of the module -/
def gixOf (S : SC) (b : Bmt) (o : Expr) (es : List Expr) : Option (Str × Expr) := match b, o, es with
  | .index, .Name y _, [a] => if okN y && glb S y then some (y, a) else none
  | _, _, _ => none
mutual
/-- the slots a target stores -/
def tgIx : Tg → List Nat
  | .name i => [i]
  | .fld _ _ => []
  | .sub _ _ => []
  | .tup _ ts => tgsIx ts
def tgsIx : Tgs → List Nat
  | .nil => []
  | .cons t r => tgIx t ++ tgsIx r
end
def lenTgs : Tgs → Nat
  | .nil => 0
  | .cons _ r => lenTgs r + 1
/-- what the translation looks at: the defs there are, the builtin names that the module does not bind -/
structure Sig where
  keys : List FK
  free : List Str
def Sig.has (P : Sig) (f : FK) : Bool := P.keys.any fun k => decide (k = f)
section
variable (P : Sig)
mutual
def trE : Nat → SC → Expr → Ex
  | 0, _, _ => bdE
  | n + 1, S, e => match e with
    | .Constant c _ _ => (match c with
      | .none => .cst .non
      | .bool b => .cst (.bl b)
      | .int i => .cst (.int i)
      | .str s => .cst (.str s)
      | _ => bdE)
    | .Name x _ => if okN x then (if vis S x then (match idx8 x S.N with | some i => .var i | none => bdE) else if glb S x then .glo x else bdE) else bdE
    | .Tuple es _ _ => if es.all nStar then .tup (trEs n S es) else bdE
    | .List es _ => if es.all nStar then .lst (trEs n S es) else bdE
    | .Dict keys vals _ => if keys.all (·.isSome) && decide (keys.length = vals.length) && decide (keys.length ≤ 15) then .dic (trPs n S keys vals) else bdE
    | .BinOp a op b _ => (match bopOf op with | some o => .bin o (trE n S a) (trE n S b) | none => bdE)
    | .UnaryOp op a _ => (match op with | .USub => .neg (trE n S a) | .Not => .not (trE n S a) | _ => bdE)
    | .BoolOp op vs p => (match vs with
      | [] => bdE
      | [a] => trE n S a
      | a :: b :: r => (match op with
        | .And => .and (trE n S a) (trE n S (.BoolOp .And (b :: r) p))
        | .Or => .or (trE n S a) (trE n S (.BoolOp .Or (b :: r) p))))
    | .Compare a ops bs _ => (match ops, bs with
      | [o], [b] => (match copOf o with | some o => if nSet b then .cmp o (trE n S a) (trE n S b) else bdE | none => bdE)
      | [o1, o2], [b, c] => (match copOf o1, copOf o2 with | some o1, some o2 => if nSet c then .chn o1 o2 (trE n S a) (trE n S b) (trE n S c) else bdE | _, _ => bdE)
      | _, _ => bdE)
    | .IfExp c a b _ => .ife (trE n S c) (trE n S a) (trE n S b)
    | .Subscript a b _ => (match b with
      | .Slice lo hi none _ => .sl (trE n S a) (trO n S lo) (trO n S hi)
      | .Slice none none (some (.UnaryOp .USub (.Constant (.int i) _ _) _)) _ => if i = 1 then .rev (trE n S a) else bdE
      | _ => if nSlice b then .ix (trE n S a) (trE n S b) else bdE)
    | .Attribute a f _ => if nSup a then .fld (trE n S a) f else bdE
    | .Call f es kws p => if kws.isEmpty && es.all nStar then (match f with
      | .Name x _ => if okN x && glb S x then (match bltOf x with
        | some b => if !P.free.contains x then bdE else (match lenSet b es with
          | some (y, a) => if y = "set" && glb S y && P.free.contains y && nStar a then .blt .lenset (.cons (trE n S a) .nil) else bdE
          | none => if es.isEmpty then bdE else .blt b (trEs n S es))
        | none => if x = "isinstance" then (match es with
          | [a, .Name c _] => (match clOf c with | some k => if glb S c && P.free.contains c && P.free.contains x then .isi (trE n S a) k else bdE | none => bdE)
          | _ => bdE)
          else if P.has (x, some "__init__") then .mak x (trEs n S es)
          else if P.has (x, none) then .call x (trEs n S es) else bdE) else bdE
      | .Attribute o m ap => if nSup o && decide (ap.endLine = p.line) && decide (es.length < 30) then (match bmtOf m es.length with
        | some b => (match gixOf S b o es with
          | some (y, a) => .gix y (trE n S a)
          | none => .bmt b (trE n S o) (trEs n S es))
        | none => .mth (trE n S o) m (trEs n S es)) else bdE
      | _ => bdE) else bdE
    | .ListComp elt gens sc _ => (match gens with
      | [g] => if decide (g.is_async = 0) && L2.blkC S.N S.esc sc (ownOf S.N sc) then
          (if (tgIx (trG n ⟨S.N, L2.relS sc S.esc, fun x => sc.names.lookup x == some .cell⟩ g.target)).all (fun i => ((ownOf S.N sc).map (·.2)).contains i) then
            .lc (trE n ⟨S.N, L2.relS sc S.esc, fun x => sc.names.lookup x == some .cell⟩ elt) ((ownOf S.N sc).map (·.2)) (trG n ⟨S.N, L2.relS sc S.esc, fun x => sc.names.lookup x == some .cell⟩ g.target) (trI n S g.target g.iter) (trC n ⟨S.N, L2.relS sc S.esc, fun x => sc.names.lookup x == some .cell⟩ g.ifs)
          else bdE) else bdE
      | _ => bdE)
    | _ => bdE
def trEs : Nat → SC → List Expr → Exs
  | 0, _, _ => .cons bdE .nil
  | n + 1, S, es => match es with
    | [] => .nil
    | e :: r => .cons (trE n S e) (trEs n S r)
def trPs : Nat → SC → List (Option Expr) → List Expr → Prs
  | 0, _, _, _ => .cons bdE bdE .nil
  | n + 1, S, ks, vs => match ks, vs with
    | [], [] => .nil
    | some k :: ks, v :: vs => .cons (trE n S k) (trE n S v) (trPs n S ks vs)
    | _, _ => .cons bdE bdE .nil
def trO : Nat → SC → Option Expr → Op
  | 0, _, _ => .some bdE
  | n + 1, S, o => match o with
    | none => .none
    | some e => .some (trE n S e)
def trC : Nat → SC → List Expr → Op
  | 0, _, _ => .some bdE
  | n + 1, S, l => match l with
    | [] => .none
    | [e] => .some (trE n S e)
    | _ => .some bdE
def trI : Nat → SC → Expr → Expr → It
  | 0, _, _, _ => .seq bdE
  | n + 1, S, tg, e => match e with
    | .Call (.Name x p1) es kws p2 => if kws.isEmpty && okN x && glb S x && P.free.contains x && es.all nStar then
        (if x = "range" then (match es with
          | [a] => .range1 (trE n S a)
          | [a, b] => .range2 (trE n S a) (trE n S b)
          | _ => .seq bdE)
        else if x = "enumerate" && !nTup tg then (match es with | [a] => .enum (trE n S a) | _ => .seq bdE)
        else if x = "zip" && !nTup tg then (match es with | [a, b] => .zip (trE n S a) (trE n S b) | _ => .seq bdE)
        else .seq (trE n S (.Call (.Name x p1) es kws p2))) else .seq (trE n S (.Call (.Name x p1) es kws p2))
    | e => if nSet e then .seq (trE n S e) else .seq bdE
def trG : Nat → SC → Expr → Tg
  | 0, _, _ => bdG
  | n + 1, S, t => match t with
    | .Name x _ => if sto S x then (match idx8 x S.N with | some i => .name i | none => bdG) else bdG
    | .Attribute o f _ => if nSup o then .fld (trE n S o) f else bdG
    | .Subscript o i _ => if nSlice i then .sub (trE n S o) (trE n S i) else bdG
    | .Tuple ts _ _ => if ts.all nStar then .tup ts.length (trGs n S ts) else bdG
    | _ => bdG
def trGs : Nat → SC → List Expr → Tgs
  | 0, _, _ => .cons bdG .nil
  | n + 1, S, ts => match ts with
    | [] => .nil
    | t :: r => .cons (trG n S t) (trGs n S r)
end
/-- a comprehension stored under a name: on the same line, or on another -/
def lcS (S : SC) (t e : Expr) (s : Sm) : Sm := match t with
  | .Name y py => (match e with
    | .ListComp _ [g] sc pos => if nSet g.iter && decide (py.line = pos.line) && decide (S.esc.names.lookup y = some .local) && !(sc.names.any fun (n, k) => n == y && (k == .local || k == .cell)) then s else bdS
    | _ => bdS)
  | _ => s
mutual
def trS : Nat → SC → Stmt → Sm
  | 0, _, _ => bdS
  | n + 1, S, s => match s with
    | .Return o _ => (match o with | some e => .ret (trE P n S e) | none => .retN)
    | .Pass _ => .pass
    | .Expr e _ => if nComp e then .exp (trE P n S e) else bdS
    | .If c a b _ => .ite (trE P n S c) (trSs n S a) (trSs n S b)
    | .While c b o _ => if o.isEmpty then .whl (trE P n S c) (trSs n S b) else bdS
    | .For t it b o _ => if o.isEmpty then .for (trG P n S t) (trI P n S t it) (trSs n S b) else bdS
    | .Assign ts e _ => (match ts with
      | [t] => if (nTL t || nTup e) && nStar t then (if nComp e then .asg (trG P n S t) (trE P n S e) else lcS S t e (.asg (trG P n S t) (trE P n S e))) else bdS
      | _ => bdS)
    | _ => bdS
def trSs : Nat → SC → List Stmt → Sms
  | 0, _, _ => .cons bdS .nil
  | n + 1, S, ss => match ss with
    | [] => .nil
    | s :: r => .cons (trS n S s) (trSs n S r)
end
end
end MP


set_option Elab.async false
set_option linter.all false
set_option maxRecDepth 100000
set_option autoImplicit false
/-! S1: how values, stores, slots of MP lie in the abstract heap. -/
namespace MPS
open PySem L2 MP

/-- a dict of the module: texts to texts -/
def kdB (K : PySem.W.Frag) (a : Addr) (kvs : List (Str × Str)) : Bool := match K.lookup a with
  | some ⟨.type c, none, .dict es _, sl⟩ => decide (c = "dict") && sl.isEmpty && !(a == sysModules) && decide (es.toList.map (fun e => match e.key, e.val with | .str x _, .str y _ => some (x, y) | _, _ => none) = kvs.map some)
  | _ => false
def KD (K : PySem.W.Frag) (w : World) (a : Addr) (kvs : List (Str × Str)) : Prop := kdB K a kvs = true ∧ ∃ es n, KDict K w a es n

/-- a list that is only read -/
def FroL (K : PySem.W.Frag) (H : Hp) (a : Addr) (vs : List V) : Prop := (∃ o, H a = some (.frz o (.lst vs))) ∨
  ∃ (o : Obj) (its : Array Value) (n : Nat), K.lookup a = some o ∧ o.cls = .type "list" ∧ o.dict = none ∧ o.data = .seq its n ∧ its.size ≤ sizeLine ∧ Vals vs its.toList
theorem FroL.sq {K : PySem.W.Frag} {H : Hp} {a : Addr} {vs : List V} (h : FroL K H a vs) : SqL K H a vs := by
  rcases h with ⟨o, h⟩ | h
  · exact .inl (.inr ⟨o, h⟩)
  · exact .inr h
section
variable (K : PySem.W.Frag) (w : World) (ca : Str → Addr) (μ : List Addr) (H : Hp)
mutual
def RepV : W → V → Prop
  | .non, v => v = .non
  | .bl b, v => v = .bl b
  | .int i, v => v = .int i
  | .str x, v => v = .str x
  | .tup ws, v => ∃ a vs, v = .ref a ∧ SqT K H a vs ∧ RepVs ws vs
  | .ref n, v => ∃ a, v = .ref a ∧ μ[n]? = some a
  | .gd kvs, v => ∃ a, v = .ref a ∧ KD K w a kvs
  | .fro ws, v => ∃ a vs, v = .ref a ∧ FroL K H a vs ∧ RepVs ws vs
def RepVs : List W → List V → Prop
  | [], vs => vs = []
  | x :: r, vs => ∃ v q, vs = v :: q ∧ RepV x v ∧ RepVs r q
end
def RepK : List (MP.Key × W) → List (L2.Key × V) → Prop
  | [], q => q = []
  | p :: r, q => ∃ v s, q = (p.1, v) :: s ∧ RepV K w μ H p.2 v ∧ RepK r s
def RepF : List (Str × W) → List (Str × V) → Prop
  | [], q => q = []
  | p :: r, q => ∃ v s, q = (p.1, v) :: s ∧ RepV K w μ H p.2 v ∧ RepF r s
def RepO (a : Addr) : SO → Prop
  | .lst ws => ∃ vs, H a = some (.lst vs) ∧ RepVs K w μ H ws vs
  | .dic kvs => ∃ q, H a = some (.dK q) ∧ RepK K w μ H kvs q
  | .ins c fs => ∃ dx q, H a = some (.ins (ca c) dx q) ∧ RepF K w μ H fs q
structure Rep (st : Store) : Prop where
  len : μ.length = st.length
  nd : μ.Nodup
  obj : ∀ (i : Nat) a o, μ[i]? = some a → st[i]? = some o → RepO K w ca μ H a o
/-- the slots -/
structure RepE (ρ : MP.Env) (σ : L2.St) : Prop where
  len : σ.length = ρ.length
  at_ : ∀ (i : Nat) x, ρ[i]? = some (some x) → ∃ v, σ[i]? = some (some v) ∧ RepV K w μ H x v
end
/-- what has come about: more objects; what is no object of ours stands as it stood -/
structure Ext (μ : List Addr) (H : Hp) (μ' : List Addr) (H' : Hp) : Prop where
  pre : ∃ ν, μ' = μ ++ ν
  keep : ∀ b o, H b = some o → b ∉ μ → H' b = some o
  new : ∀ a ∈ μ', a ∉ μ → H a = none
section
variable {K : PySem.W.Frag} {w : World} {ca : Str → Addr} {μ μ' μ'' : List Addr} {H H' H'' : Hp} {st st' : Store} {ρ : MP.Env} {σ : L2.St}
theorem Ext.refl : Ext μ H μ H := ⟨⟨[], by simp⟩, fun _ _ e _ => e, fun _ h n => absurd h n⟩
theorem Ext.trans (a : Ext μ H μ' H') (b : Ext μ' H' μ'' H'') : Ext μ H μ'' H'' := by
  obtain ⟨ν, e1⟩ := a.pre
  obtain ⟨ν', e2⟩ := b.pre
  refine ⟨⟨ν ++ ν', by rw [e2, e1, List.append_assoc]⟩, fun c o h n => ?_, fun c h n => ?_⟩
  · refine b.keep c o (a.keep c o h n) fun z => ?_
    have := a.new c z n
    rw [h] at this; cases this
  · by_cases z : c ∈ μ'
    · exact a.new c z n
    · have h1 := b.new c h z
      cases q : H c with
      | none => rfl
      | some o =>
        have := a.keep c o q n
        rw [h1] at this; cases this
theorem Ext.get (e : Ext μ H μ' H') {n : Nat} {a : Addr} (h : μ[n]? = some a) : μ'[n]? = some a := by
  obtain ⟨ν, rfl⟩ := e.pre
  have := (List.getElem?_eq_some_iff.mp h).1
  rw [List.getElem?_append_left this]; exact h
theorem Rep.at_ (R : Rep K w ca μ H st) {a : Addr} (h : a ∈ μ) : ∃ (i : Nat) (o : SO), μ[i]? = some a ∧ st[i]? = some o ∧ RepO K w ca μ H a o := by
  obtain ⟨i, hi, e⟩ := List.mem_iff_getElem.mp h
  have hi' : i < st.length := by rw [← R.len]; exact hi
  have e1 : μ[i]? = some a := by rw [List.getElem?_eq_getElem hi, e]
  exact ⟨i, st[i], e1, List.getElem?_eq_getElem hi', R.obj i a _ e1 (List.getElem?_eq_getElem hi')⟩
/-- our objects are lists, dicts, instances -/
def Ours : HO → Prop
  | .lst _ => True
  | .dK _ => True
  | .ins _ _ _ => True
  | _ => False
theorem Rep.ours (R : Rep K w ca μ H st) {a : Addr} (h : a ∈ μ) : ∃ o, H a = some o ∧ Ours o := by
  obtain ⟨i, o, _, _, ro⟩ := R.at_ h
  cases o with
  | lst ws => obtain ⟨vs, e, _⟩ := ro; exact ⟨_, e, trivial⟩
  | dic kvs => obtain ⟨q, e, _⟩ := ro; exact ⟨_, e, trivial⟩
  | ins c fs => obtain ⟨dx, q, e, _⟩ := ro; exact ⟨_, e, trivial⟩
theorem Rep.out (R : Rep K w ca μ H st) {a : Addr} {o : HO} (h : H a = some o) (n : ¬ Ours o) : a ∉ μ := fun z => by
  obtain ⟨u, e, q⟩ := R.ours z
  rw [h] at e; cases e; exact n q
theorem Rep.outN (R : Rep K w ca μ H st) {a : Addr} (h : H a = none) : a ∉ μ := fun z => by
  obtain ⟨u, e, q⟩ := R.ours z
  rw [h] at e; cases e
/-- .. weaker: what is a list, a dict, an instance need not stand -/
structure Ext0 (μ : List Addr) (H : Hp) (μ' : List Addr) (H' : Hp) : Prop where
  pre : ∃ ν, μ' = μ ++ ν
  keep : ∀ b o, H b = some o → ¬ Ours o → b ∉ μ → H' b = some o
theorem Ext.wk (e : Ext μ H μ' H') : Ext0 μ H μ' H' := ⟨e.pre, fun b o h _ n => e.keep b o h n⟩
theorem Ext0.get (e : Ext0 μ H μ' H') {n : Nat} {a : Addr} (h : μ[n]? = some a) : μ'[n]? = some a := by
  obtain ⟨ν, rfl⟩ := e.pre
  have := (List.getElem?_eq_some_iff.mp h).1
  rw [List.getElem?_append_left this]; exact h
theorem sqT_ext0 (R : Rep K w ca μ H st) (e : Ext0 μ H μ' H') {a : Addr} {vs : List V} (h : SqT K H a vs) : SqT K H' a vs := by
  rcases h with (h | ⟨o, h⟩) | h
  · exact .inl (.inl (e.keep _ _ h (fun z => z) (R.out h (fun z => z))))
  · exact .inl (.inr ⟨o, e.keep _ _ h (fun z => z) (R.out h (fun z => z))⟩)
  · exact .inr h
theorem froL_ext0 (R : Rep K w ca μ H st) (e : Ext0 μ H μ' H') {a : Addr} {vs : List V} (h : FroL K H a vs) : FroL K H' a vs := by
  rcases h with ⟨o, h⟩ | h
  · exact .inl ⟨o, e.keep _ _ h (fun z => z) (R.out h (fun z => z))⟩
  · exact .inr h
mutual
theorem repV_ext0 (R : Rep K w ca μ H st) (e : Ext0 μ H μ' H') : ∀ {x : W} {v : V}, RepV K w μ H x v → RepV K w μ' H' x v
  | .non, v, h => h
  | .bl b, v, h => h
  | .int i, v, h => h
  | .str x, v, h => h
  | .tup ws, v, h => by
    obtain ⟨a, vs, ev, hs, hv⟩ := h
    exact ⟨a, vs, ev, sqT_ext0 R e hs, repVs_ext0 R e hv⟩
  | .ref n, v, h => by
    obtain ⟨a, ev, hm⟩ := h
    exact ⟨a, ev, e.get hm⟩
  | .gd kvs, v, h => h
  | .fro ws, v, h => by
    obtain ⟨a, vs, ev, hs, hv⟩ := h
    exact ⟨a, vs, ev, froL_ext0 R e hs, repVs_ext0 R e hv⟩
theorem repVs_ext0 (R : Rep K w ca μ H st) (e : Ext0 μ H μ' H') : ∀ {x : List W} {v : List V}, RepVs K w μ H x v → RepVs K w μ' H' x v
  | [], v, h => h
  | x :: r, v, h => by
    obtain ⟨y, q, ev, h1, h2⟩ := h
    exact ⟨y, q, ev, repV_ext0 R e h1, repVs_ext0 R e h2⟩
end
theorem repK_ext0 (R : Rep K w ca μ H st) (e : Ext0 μ H μ' H') : ∀ {x : List (MP.Key × W)} {v : List (L2.Key × V)}, RepK K w μ H x v → RepK K w μ' H' x v
  | [], v, h => h
  | x :: r, v, h => by
    obtain ⟨y, q, ev, h1, h2⟩ := h
    exact ⟨y, q, ev, repV_ext0 R e h1, repK_ext0 R e h2⟩
theorem repF_ext0 (R : Rep K w ca μ H st) (e : Ext0 μ H μ' H') : ∀ {x : List (Str × W)} {v : List (Str × V)}, RepF K w μ H x v → RepF K w μ' H' x v
  | [], v, h => h
  | x :: r, v, h => by
    obtain ⟨y, q, ev, h1, h2⟩ := h
    exact ⟨y, q, ev, repV_ext0 R e h1, repF_ext0 R e h2⟩
theorem sqT_ext (R : Rep K w ca μ H st) (e : Ext μ H μ' H') {a : Addr} {vs : List V} (h : SqT K H a vs) : SqT K H' a vs := sqT_ext0 R e.wk h
theorem froL_ext (R : Rep K w ca μ H st) (e : Ext μ H μ' H') {a : Addr} {vs : List V} (h : FroL K H a vs) : FroL K H' a vs := froL_ext0 R e.wk h
theorem repV_ext (R : Rep K w ca μ H st) (e : Ext μ H μ' H') {x : W} {v : V} (h : RepV K w μ H x v) : RepV K w μ' H' x v := repV_ext0 R e.wk h
theorem repVs_ext (R : Rep K w ca μ H st) (e : Ext μ H μ' H') {x : List W} {v : List V} (h : RepVs K w μ H x v) : RepVs K w μ' H' x v := repVs_ext0 R e.wk h
theorem repK_ext (R : Rep K w ca μ H st) (e : Ext μ H μ' H') {x : List (MP.Key × W)} {v : List (L2.Key × V)} (h : RepK K w μ H x v) : RepK K w μ' H' x v := repK_ext0 R e.wk h
theorem repF_ext (R : Rep K w ca μ H st) (e : Ext μ H μ' H') {x : List (Str × W)} {v : List (Str × V)} (h : RepF K w μ H x v) : RepF K w μ' H' x v := repF_ext0 R e.wk h
theorem RepE.ext (R : Rep K w ca μ H st) (e : Ext μ H μ' H') (h : RepE K w μ H ρ σ) : RepE K w μ' H' ρ σ :=
  ⟨h.len, fun i x q => let ⟨v, e1, r⟩ := h.at_ i x q; ⟨v, e1, repV_ext R e r⟩⟩
theorem RepE.set (h : RepE K w μ H ρ σ) {i : Nat} {x : W} {v : V} (r : RepV K w μ H x v) : RepE K w μ H (ρ.set i (some x)) (σ.set i (some v)) := by
  refine ⟨by rw [List.length_set, List.length_set, h.len], fun j y e => ?_⟩
  by_cases hj : i = j
  · subst hj
    by_cases hl : i < ρ.length
    · rw [List.getElem?_set_self hl] at e
      cases e
      exact ⟨v, by rw [List.getElem?_set_self (by rw [h.len]; exact hl)], r⟩
    · rw [List.getElem?_eq_none (by rw [List.length_set]; omega)] at e
      cases e
  · rw [List.getElem?_set_ne hj] at e
    rw [List.getElem?_set_ne hj]
    exact h.at_ j y e
theorem RepE.wipe (h : RepE K w μ H ρ σ) : ∀ own : List Nat, RepE K w μ H (MP.wipe ρ own) (L2.wipe σ own)
  | [] => h
  | i :: r => by
    have ih := RepE.wipe h r
    refine ⟨?_, fun j y e => ?_⟩
    · show ((L2.wipe σ r).set i none).length = ((MP.wipe ρ r).set i none).length
      rw [List.length_set, List.length_set, ih.len]
    · have e : ((MP.wipe ρ r).set i none)[j]? = some (some y) := e
      show ∃ v, ((L2.wipe σ r).set i none)[j]? = some (some v) ∧ _
      by_cases hj : i = j
      · subst hj
        by_cases hl : i < (MP.wipe ρ r).length
        · rw [List.getElem?_set_self hl] at e; cases e
        · rw [List.getElem?_eq_none (by rw [List.length_set]; omega)] at e; cases e
      · rw [List.getElem?_set_ne hj] at e ⊢
        exact ih.at_ j y e
/-! ### new objects, written objects -/
theorem ext_new {p : Addr} {o : HO} (hp : H p = none) (n : p ∉ μ) : Ext μ H (μ ++ [p]) (upd H p o) := by
  refine ⟨⟨[p], rfl⟩, fun b u e _ => ?_, fun a h n => ?_⟩
  · rw [upd_ne (ne_of_none e hp)]; exact e
  · rcases List.mem_append.mp h with h | h
    · exact absurd h n
    · have : a = p := by simpa using h
      rw [this]; exact hp
/-- something that is no object of ours -/
theorem ext_other {p : Addr} {o : HO} (hp : H p = none) : Ext μ H μ (upd H p o) :=
  ⟨⟨[], by simp⟩, fun b u e _ => by rw [upd_ne (ne_of_none e hp)]; exact e, fun a h n => absurd h n⟩
theorem Rep.other (R : Rep K w ca μ H st) (e : Ext μ H μ H') (h : ∀ b ∈ μ, H' b = H b) : Rep K w ca μ H' st := by
  refine ⟨R.len, R.nd, fun i a o h1 h2 => ?_⟩
  have ha : a ∈ μ := List.mem_of_getElem? h1
  have ro := R.obj i a o h1 h2
  cases o with
  | lst ws => obtain ⟨vs, q, r⟩ := ro; exact ⟨vs, by rw [h a ha]; exact q, repVs_ext R e r⟩
  | dic kvs => obtain ⟨s, q, r⟩ := ro; exact ⟨s, by rw [h a ha]; exact q, repK_ext R e r⟩
  | ins c fs => obtain ⟨dx, s, q, r⟩ := ro; exact ⟨dx, s, by rw [h a ha]; exact q, repF_ext R e r⟩
theorem Rep.laidOther (R : Rep K w ca μ H st) {p : Addr} {o : HO} (hp : H p = none) : Rep K w ca μ (upd H p o) st :=
  R.other (ext_other hp) fun b hb => upd_ne (fun z => R.outN hp (by rw [← z]; exact hb))
/-- a new object of ours -/
theorem Rep.new0 (R : Rep K w ca μ H st) {p : Addr} {o : HO} {u : SO} (np : p ∉ μ) (e : Ext0 μ H (μ ++ [p]) (upd H p o)) (ro : RepO K w ca (μ ++ [p]) (upd H p o) p u) : Rep K w ca (μ ++ [p]) (upd H p o) (st ++ [u]) := by
  refine ⟨by rw [List.length_append, List.length_append, R.len]; rfl, List.nodup_append.mpr ⟨R.nd, by simp, fun a ha b hb => by
    have : b = p := by simpa using hb
    rw [this]; exact fun z => np (by rw [← z]; exact ha)⟩, fun i a v h1 h2 => ?_⟩
  by_cases hi : i < μ.length
  · rw [List.getElem?_append_left hi] at h1
    rw [List.getElem?_append_left (by rw [← R.len]; exact hi)] at h2
    have ha : a ∈ μ := List.mem_of_getElem? h1
    have hne : a ≠ p := fun z => np (by rw [← z]; exact ha)
    have r1 := R.obj i a v h1 h2
    cases v with
    | lst ws => obtain ⟨vs, q, r⟩ := r1; exact ⟨vs, by rw [upd_ne hne]; exact q, repVs_ext0 R e r⟩
    | dic kvs => obtain ⟨s, q, r⟩ := r1; exact ⟨s, by rw [upd_ne hne]; exact q, repK_ext0 R e r⟩
    | ins c fs => obtain ⟨dx, s, q, r⟩ := r1; exact ⟨dx, s, by rw [upd_ne hne]; exact q, repF_ext0 R e r⟩
  · have hl := (List.getElem?_eq_some_iff.mp h1).1
    rw [List.length_append, List.length_singleton] at hl
    have hi2 : i = μ.length := by omega
    subst hi2
    rw [List.getElem?_append_right (Nat.le_refl _), Nat.sub_self] at h1
    rw [List.getElem?_append_right (by rw [R.len]; exact Nat.le_refl _), R.len, Nat.sub_self] at h2
    cases h1; cases h2
    exact ro
theorem Rep.new (R : Rep K w ca μ H st) {p : Addr} {o : HO} {u : SO} (hp : H p = none) (ro : RepO K w ca (μ ++ [p]) (upd H p o) p u) : Rep K w ca (μ ++ [p]) (upd H p o) (st ++ [u]) := R.new0 (R.outN hp) (ext_new (o := o) hp (R.outN hp)).wk ro
/-- an object of ours is written -/
theorem ext_write {a : Addr} {o u : HO} (h : a ∈ μ) : Ext μ H μ (upd H a u) :=
  ⟨⟨[], by simp⟩, fun b v e n => by rw [upd_ne (fun z => n (by rw [z]; exact h))]; exact e, fun c h n => absurd h n⟩
theorem nodup_at {l : List Addr} (nd : l.Nodup) {i j : Nat} {a : Addr} (h1 : l[i]? = some a) (h2 : l[j]? = some a) : i = j := nd_ix nd h1 h2
theorem Rep.write (R : Rep K w ca μ H st) {r : Nat} {a : Addr} {u : HO} {v : SO} (hr : μ[r]? = some a) (ro : RepO K w ca μ (upd H a u) a v) : Rep K w ca μ (upd H a u) (st.set r v) := by
  have ha : a ∈ μ := List.mem_of_getElem? hr
  have e : Ext μ H μ (upd H a u) := ext_write (o := u) ha
  refine ⟨by rw [List.length_set]; exact R.len, R.nd, fun i b x h1 h2 => ?_⟩
  by_cases hi : r = i
  · subst hi
    rw [hr] at h1; cases h1
    have hl : r < st.length := by rw [← R.len]; exact (List.getElem?_eq_some_iff.mp hr).1
    rw [List.getElem?_set_self hl] at h2
    cases h2
    exact ro
  · rw [List.getElem?_set_ne hi] at h2
    have hne : b ≠ a := fun z => hi (nodup_at R.nd hr (by rw [← z]; exact h1))
    have r1 := R.obj i b x h1 h2
    cases x with
    | lst ws => obtain ⟨vs, q, r⟩ := r1; exact ⟨vs, by rw [upd_ne hne]; exact q, repVs_ext R e r⟩
    | dic kvs => obtain ⟨s, q, r⟩ := r1; exact ⟨s, by rw [upd_ne hne]; exact q, repK_ext R e r⟩
    | ins c fs => obtain ⟨dx, s, q, r⟩ := r1; exact ⟨dx, s, by rw [upd_ne hne]; exact q, repF_ext R e r⟩
end
end MPS


set_option Elab.async false
set_option linter.all false
set_option maxRecDepth 100000
set_option autoImplicit false
set_option maxHeartbeats 4000000
/-! S2: the operations on values. -/
namespace MPS
open PySem PySem.Spec PyProof.Rows L2 MP
section
variable (K : PySem.W.Frag) (w : World) (ca : Str → Addr)
/-- what is wanted behind an evaluation that comes to r -/
def PostG {α β : Type} (rep : List Addr → Hp → α → β → Prop) (r : R α) (μ : List Addr) (H : Hp) (Q : β → Hp → Prop) : Prop := match r with
  | .ok a st' => ∀ μ' v H', Ext μ H μ' H' → Rep K w ca μ' H' st' → rep μ' H' a v → Q v H'
  | .exc _ _ => False
  | .bad => False
abbrev Post : R W → List Addr → Hp → VK → Prop := PostG K w ca fun μ H a v => RepV K w μ H a v
abbrev PostA : R (List W) → List Addr → Hp → (List V → Hp → Prop) → Prop := PostG K w ca fun μ H a v => RepVs K w μ H a v
end
section
variable {K : PySem.W.Frag} {w : World} {ca : Str → Addr} {μ μ' μ1 : List Addr} {H H' H1 : Hp} {st st' : Store} {α β γ δ : Type} {rep : List Addr → Hp → α → β → Prop} {rep2 : List Addr → Hp → γ → δ → Prop}
theorem PostG.shift {r : R α} {Q : β → Hp → Prop} (e : Ext μ H μ1 H1) (h : PostG K w ca rep r μ H Q) : PostG K w ca rep r μ1 H1 Q := by
  cases r with
  | ok a s => exact fun μ' v H' e2 R r => h μ' v H' (e.trans e2) R r
  | exc x s => exact h
  | bad => exact h
theorem PostG.imp {r : R α} {Q Q' : β → Hp → Prop} (h : PostG K w ca rep r μ H Q) (k : ∀ v H', Q v H' → Q' v H') : PostG K w ca rep r μ H Q' := by
  cases r with
  | ok a s => exact fun μ' v H' e R r => k _ _ (h μ' v H' e R r)
  | exc x s => exact h
  | bad => exact h
theorem PostG.bind {r : R α} {f : α → Store → R γ} {Q : δ → Hp → Prop} {Q' : β → Hp → Prop} (h : PostG K w ca rep2 (r.bind f) μ H Q)
    (k : ∀ μ1 s1 a v H1, Ext μ H μ1 H1 → Rep K w ca μ1 H1 s1 → rep μ1 H1 a v → PostG K w ca rep2 (f a s1) μ1 H1 Q → Q' v H1) : PostG K w ca rep r μ H Q' := by
  cases r with
  | ok a s => exact fun μ1 v H1 e R r => k μ1 s a v H1 e R r (PostG.shift e h)
  | exc x s => exact h
  | bad => exact h
theorem PostG.now {a : α} {v : β} {Q : β → Hp → Prop} (h : PostG K w ca rep (.ok a st) μ H Q) (R : Rep K w ca μ H st) (r : rep μ H a v) : Q v H := h μ v H .refl R r
theorem Post.new {Q : VK} {u : SO} {o : HO} {p : Addr} (h : Post K w ca (MP.new u st) μ H Q) (R : Rep K w ca μ H st) (hp : H p = none) (ro : RepO K w ca (μ ++ [p]) (upd H p o) p u) : Q (.ref p) (upd H p o) :=
  h (μ ++ [p]) (.ref p) _ (ext_new hp (R.outN hp)) (R.new hp ro) ⟨p, rfl, by rw [← R.len, List.getElem?_append_right (Nat.le_refl _), Nat.sub_self] <;> rfl⟩
/-- a tuple is made: no object of ours -/
theorem Post.tup {Q : VK} {ws : List W} {vs : List V} {p : Addr} (h : Post K w ca (.ok (.tup ws) st) μ H Q) (R : Rep K w ca μ H st) (hp : H p = none) (r : RepVs K w μ H ws vs) : Q (.ref p) (upd H p (.tup vs)) :=
  h μ (.ref p) _ (ext_other hp) (R.laidOther hp) ⟨p, vs, rfl, .inl (.inl upd_same), repVs_ext R (ext_other hp) r⟩
theorem repVs_len : ∀ {ws : List W} {vs : List V}, RepVs K w μ H ws vs → vs.length = ws.length
  | [], _, h => by rw [show _ = _ from h] <;> rfl
  | a :: r, _, h => by
    obtain ⟨v, q, e, _, h2⟩ := h
    rw [e, List.length_cons, List.length_cons, repVs_len h2]
theorem repVs_app : ∀ {a b : List W} {vs us : List V}, RepVs K w μ H a vs → RepVs K w μ H b us → RepVs K w μ H (a ++ b) (vs ++ us)
  | [], _, _, _, h, k => by rw [show _ = _ from h]; exact k
  | a :: r, b, _, _, h, k => by
    obtain ⟨v, q, e, h1, h2⟩ := h
    exact ⟨v, q ++ _, by rw [e]; rfl, h1, repVs_app h2 k⟩
theorem repVs_get : ∀ {ws : List W} {vs : List V} {i : Nat} {a : W}, RepVs K w μ H ws vs → ws[i]? = some a → ∃ v, vs[i]? = some v ∧ RepV K w μ H a v
  | [], _, _, _, h, e => by simp at e
  | x :: r, _, 0, a, h, e => by
    obtain ⟨v, q, ev, h1, h2⟩ := h
    simp at e; subst e
    exact ⟨v, by rw [ev]; rfl, h1⟩
  | x :: r, _, i + 1, a, h, e => by
    obtain ⟨v, q, ev, h1, h2⟩ := h
    obtain ⟨y, e2, r2⟩ := repVs_get (i := i) h2 (by simpa using e)
    exact ⟨y, by rw [ev]; simpa using e2, r2⟩
theorem repVs_set : ∀ {ws : List W} {vs : List V} {i : Nat} {a : W} {v : V}, RepVs K w μ H ws vs → RepV K w μ H a v → RepVs K w μ H (ws.set i a) (vs.set i v)
  | [], _, _, _, _, h, _ => by rw [show _ = _ from h]; exact rfl
  | x :: r, _, 0, a, v, h, k => by
    obtain ⟨y, q, ev, h1, h2⟩ := h
    subst ev
    exact ⟨v, q, rfl, k, h2⟩
  | x :: r, _, i + 1, a, v, h, k => by
    obtain ⟨y, q, ev, h1, h2⟩ := h
    subst ev
    exact ⟨y, q.set i v, rfl, h1, repVs_set h2 k⟩
theorem repVs_take : ∀ {ws : List W} {vs : List V} (n : Nat), RepVs K w μ H ws vs → RepVs K w μ H (ws.take n) (vs.take n)
  | _, _, 0, _ => rfl
  | [], _, n + 1, h => by rw [show _ = _ from h]; exact rfl
  | x :: r, _, n + 1, h => by
    obtain ⟨y, q, ev, h1, h2⟩ := h
    subst ev
    exact ⟨y, q.take n, rfl, h1, repVs_take n h2⟩
theorem repVs_drop : ∀ {ws : List W} {vs : List V} (n : Nat), RepVs K w μ H ws vs → RepVs K w μ H (ws.drop n) (vs.drop n)
  | _, _, 0, h => h
  | [], _, n + 1, h => by rw [show _ = _ from h]; exact rfl
  | x :: r, _, n + 1, h => by
    obtain ⟨y, q, ev, h1, h2⟩ := h
    subst ev
    exact repVs_drop n h2
theorem repVs_rev : ∀ {ws : List W} {vs : List V}, RepVs K w μ H ws vs → RepVs K w μ H ws.reverse vs.reverse
  | [], _, h => by rw [show _ = _ from h]; exact rfl
  | x :: r, _, h => by
    obtain ⟨y, q, ev, h1, h2⟩ := h
    subst ev
    rw [List.reverse_cons, List.reverse_cons]
    exact repVs_app (repVs_rev h2) ⟨y, [], rfl, h1, rfl⟩
theorem repVs_rep {ws : List W} {vs : List V} (h : RepVs K w μ H ws vs) : ∀ n : Nat, RepVs K w μ H (List.replicate n ws).flatten (List.replicate n vs).flatten
  | 0 => rfl
  | n + 1 => by
    rw [List.replicate_succ, List.replicate_succ, List.flatten_cons, List.flatten_cons]
    exact repVs_app h (repVs_rep h n)
theorem repVs_nil {vs : List V} (h : RepVs K w μ H [] vs) : vs = [] := h
theorem repVs_emp {ws : List W} {vs : List V} (h : RepVs K w μ H ws vs) : vs = [] ↔ ws = [] := by
  rw [← List.length_eq_zero_iff, ← List.length_eq_zero_iff, repVs_len h]
/-- a list of ours -/
theorem Rep.lst (R : Rep K w ca μ H st) {n : Nat} {a : Addr} {ws : List W} (hm : μ[n]? = some a) (hs : st[n]? = some (.lst ws)) : ∃ vs, H a = some (.lst vs) ∧ RepVs K w μ H ws vs := R.obj n a _ hm hs
/-- the representation is one-to-one on numbers, texts .. -/
theorem repV_sc {x : W} {v : V} (h : RepV K w μ H x v) : (∀ i, x = .int i → v = .int i) ∧ (∀ i, x = .str i → v = .str i) ∧ (∀ i, x = .bl i → v = .bl i) ∧ (x = .non → v = .non) := by
  refine ⟨fun i e => ?_, fun i e => ?_, fun i e => ?_, fun e => ?_⟩ <;> (subst e; exact h)
end
def bopO : BOp → Operator
  | .add => .Add | .sub => .Sub | .mul => .Mult | .mod => .Mod | .fdiv => .FloorDiv | .pow => .Pow
section
variable {X : Cx} (ca : Str → Addr)
def rB (K : PySem.W.Frag) (w : World) (op : BOp) : R2 := fun x y H Q => ∃ μ st a b, Rep K w ca μ H st ∧ RepV K w μ H a x ∧ RepV K w μ H b y ∧ Post K w ca (bop op a b st) μ H Q
theorem smul_ok {i j : Int} (h : smul i j = true) : CMul i j := by
  unfold smul at h
  simp only [Bool.or_eq_true, Bool.and_eq_true, decide_eq_true_eq] at h
  exact h
theorem or_bop (op : BOp) : OpR X (binaryOp (bopO op)) (rB ca X.K X.w op) := by
  intro pins s σ H x y v u Q I rx ry h
  obtain ⟨μ, st, a, b, R, ra, rb, h⟩ := h
  cases op with
  | add =>
    cases a <;> cases b <;> first | exact h.elim | skip
    · rename_i i j
      exact op_add pins s σ H x y v u Q I rx ry ⟨i, j, ra, rb, h.now R rfl⟩
    · rename_i i j
      simp only [bop] at h
      split at h
      · rename_i hl
        exact op_add_str pins s σ H x y v u Q I rx ry ⟨i, j, ra, rb, hl, h.now R rfl⟩
      · exact h.elim
    · rename_i ws zs
      simp only [bop] at h
      split at h
      · rename_i hl
        obtain ⟨p, vs, rfl, hs, r1⟩ := ra
        obtain ⟨q, us, rfl, ht, r2⟩ := rb
        refine op_catA pins s σ H _ _ v u Q I rx ry ⟨p, q, vs, us, rfl, rfl, hs, ht, by rw [repVs_len r1, repVs_len r2]; exact hl, fun e => ?_, fun e1 e2 => ?_, fun e1 e2 c hc => ?_⟩
        · have e' := (repVs_emp r1).mp e
          subst e'
          exact h.now R ⟨q, us, rfl, ht, r2⟩
        · have e' := (repVs_emp r2).mp e2
          subst e'
          rw [List.append_nil] at h
          exact h.now R ⟨p, vs, rfl, hs, r1⟩
        · exact Post.tup h R hc (repVs_app r1 r2)
      · exact h.elim
    · rename_i m n
      obtain ⟨p, rfl, hm⟩ := ra
      obtain ⟨q, rfl, hn⟩ := rb
      simp only [bop] at h
      split at h
      · rename_i ws zs e1 e2
        split at h
        · rename_i hl
          obtain ⟨vs, h1, r1⟩ := R.lst hm e1
          obtain ⟨us, h2, r2⟩ := R.lst hn e2
          refine op_cat pins s σ H _ _ v u Q I rx ry ⟨p, q, vs, us, rfl, rfl, h1, h2, by rw [repVs_len r1, repVs_len r2]; exact hl, fun c hc => ?_⟩
          exact Post.new h R hc ⟨_, upd_same, repVs_ext R (ext_new hc (R.outN hc)) (repVs_app r1 r2)⟩
        · exact h.elim
      · exact h.elim
  | sub =>
    cases a <;> cases b <;> first | exact h.elim | skip
    rename_i i j
    exact op_sub pins s σ H x y v u Q I rx ry ⟨i, j, ra, rb, h.now R rfl⟩
  | mul =>
    cases a <;> cases b <;> first | exact h.elim | skip
    · rename_i i j
      simp only [bop] at h
      split at h
      · rename_i hl
        exact op_mul pins s σ H x y v u Q I rx ry ⟨i, j, ra, rb, smul_ok hl, h.now R rfl⟩
      · exact h.elim
    · rename_i m j
      obtain ⟨p, rfl, hm⟩ := ra
      simp only [bop] at h
      split at h
      · rename_i ws e1
        split at h
        · rename_i hl
          obtain ⟨vs, h1, r1⟩ := R.lst hm e1
          refine op_rep pins s σ H _ _ v u Q I rx ry ⟨p, j, vs, rfl, rb, h1, hl.2.1, hl.2.2, by rw [repVs_len r1]; exact hl.1, fun c hc => ?_⟩
          exact Post.new h R hc ⟨_, upd_same, repVs_ext R (ext_new hc (R.outN hc)) (repVs_rep r1 _)⟩
        · exact h.elim
      · exact h.elim
  | mod =>
    cases a <;> cases b <;> first | exact h.elim | skip
    rename_i i j
    simp only [bop] at h
    split at h
    · rename_i hl
      exact op_mod pins s σ H x y v u Q I rx ry ⟨i, j, ra, rb, hl, h.now R rfl⟩
    · exact h.elim
  | fdiv =>
    cases a <;> cases b <;> first | exact h.elim | skip
    rename_i i j
    simp only [bop] at h
    split at h
    · rename_i hl
      exact op_fdiv pins s σ H x y v u Q I rx ry ⟨i, j, ra, rb, hl, h.now R rfl⟩
    · exact h.elim
  | pow =>
    cases a <;> cases b <;> first | exact h.elim | skip
    rename_i i j
    simp only [bop] at h
    split at h
    · rename_i hl
      exact op_pow pins s σ H x y v u Q I rx ry ⟨i, j, ra, rb, hl, h.now R rfl⟩
    · exact h.elim
end
end MPS


set_option Elab.async false
set_option linter.all false
set_option maxRecDepth 100000
set_option autoImplicit false
set_option maxHeartbeats 4000000
/-! S3: comparisons, subscripts, slices. -/
namespace MPS
open PySem PySem.Spec PyProof.Rows L2 MP
/-! ### data -/
mutual
def toP : D → PyData
  | .non => .none
  | .bl b => .bool b
  | .int i => .int i
  | .str x => .str x
  | .tup ds => .tuple (toPs ds)
  | .lst ds => .list (toPs ds)
def toPs : List D → List PyData
  | [] => []
  | d :: r => toP d :: toPs r
end
mutual
theorem eqv_toP : ∀ d e : D, PyData.eqv (toP d) (toP e) = d.eqv e
  | .non, e => by cases e <;> simp [toP, PyData.eqv, D.eqv]
  | .bl b, e => by cases e <;> simp [toP, PyData.eqv, D.eqv]
  | .int b, e => by cases e <;> simp [toP, PyData.eqv, D.eqv]
  | .str b, e => by cases e <;> simp [toP, PyData.eqv, D.eqv]
  | .tup b, e => by
    cases e with
    | tup c => simp only [toP, PyData.eqv, D.eqv]; exact eqv_toPs b c
    | _ => simp [toP, PyData.eqv, D.eqv]
  | .lst b, e => by
    cases e with
    | lst c => simp only [toP, PyData.eqv, D.eqv]; exact eqv_toPs b c
    | _ => simp [toP, PyData.eqv, D.eqv]
theorem eqv_toPs : ∀ d e : List D, PyData.eqvAll (toPs d) (toPs e) = D.eqvs d e
  | [], [] => by simp [toPs, PyData.eqvAll, D.eqvs]
  | [], _ :: _ => by simp [toPs, PyData.eqvAll, D.eqvs]
  | _ :: _, [] => by simp [toPs, PyData.eqvAll, D.eqvs]
  | a :: r, b :: q => by simp only [toPs, PyData.eqvAll, D.eqvs]; rw [eqv_toP a b, eqv_toPs r q]
end
section
variable {K : PySem.W.Frag} {w : World} {ca : Str → Addr} {μ : List Addr} {H : Hp} {st : Store}
theorem toD_ok (R : Rep K w ca μ H st) : ∀ (n : Nat) (a : W) (v : V) (d : D), toD st n a = some d → RepV K w μ H a v → Dp K H v (toP d) ∧ (toP d).canLay0 = true ∧ (toP d).depth ≤ n := by
  intro n
  induction n with
  | zero =>
    intro a v d h r
    cases a <;> simp only [toD] at h <;> try (cases h)
    · obtain rfl : v = .non := r; exact ⟨.non, rfl, Nat.le_refl _⟩
    · rename_i b; obtain rfl : v = .bl b := r; exact ⟨.bl _, rfl, Nat.le_refl _⟩
    · rename_i b; obtain rfl : v = .int b := r; exact ⟨.int _, rfl, Nat.le_refl _⟩
    · rename_i x
      obtain rfl : v = .str x := r
      split at h
      · rename_i hk; cases h; exact ⟨.str _, hk, Nat.le_refl _⟩
      · cases h
  | succ n ih =>
    have all : ∀ (ws : List W) (vs : List V) (ds : List D), mapO (toD st n) ws = some ds → RepVs K w μ H ws vs → DpAll K H vs (toPs ds) ∧ PyData.canLayAll0 (toPs ds) = true ∧ PyData.depthAll (toPs ds) ≤ n := by
      intro ws
      induction ws with
      | nil =>
        intro vs ds h r
        obtain rfl : vs = [] := r
        cases h
        exact ⟨.nil, by simp [toPs, PyData.canLayAll0], by simp [toPs, PyData.depthAll]⟩
      | cons a q ihq =>
        intro vs ds h r
        obtain ⟨v, vq, rfl, r1, r2⟩ := r
        simp only [mapO] at h
        split at h
        · rename_i b s e1 e2
          cases h
          obtain ⟨d1, d2, d3⟩ := ih a v b e1 r1
          obtain ⟨q1, q2, q3⟩ := ihq vq s e2 r2
          refine ⟨.cons d1 q1, ?_, ?_⟩
          · simp only [toPs, PyData.canLayAll0, d2, q2, Bool.and_self]
          · simp only [toPs, PyData.depthAll]; exact Nat.max_le.mpr ⟨d3, q3⟩
        · cases h
    intro a v d h r
    cases a with
    | non => simp only [toD] at h; cases h; obtain rfl : v = .non := r; exact ⟨.non, rfl, Nat.zero_le _⟩
    | bl b => simp only [toD] at h; cases h; obtain rfl : v = .bl b := r; exact ⟨.bl _, rfl, Nat.zero_le _⟩
    | int b => simp only [toD] at h; cases h; obtain rfl : v = .int b := r; exact ⟨.int _, rfl, Nat.zero_le _⟩
    | str x =>
      simp only [toD] at h
      obtain rfl : v = .str x := r
      split at h
      · rename_i hk; cases h; exact ⟨.str _, hk, Nat.zero_le _⟩
      · cases h
    | tup ws =>
      simp only [toD] at h
      obtain ⟨ds, e, rfl⟩ := Option.map_eq_some_iff.mp h
      obtain ⟨p, vs, rfl, hs, rv⟩ := r
      obtain ⟨q1, q2, q3⟩ := all ws vs ds e rv
      exact ⟨.tup hs q1, by simp only [toP, PyData.canLay0]; exact q2, by simp only [toP, PyData.depth]; omega⟩
    | fro ws =>
      simp only [toD] at h
      obtain ⟨ds, e, rfl⟩ := Option.map_eq_some_iff.mp h
      obtain ⟨p, vs, rfl, hs, rv⟩ := r
      obtain ⟨q1, q2, q3⟩ := all ws vs ds e rv
      exact ⟨.lst hs.sq q1, by simp only [toP, PyData.canLay0]; exact q2, by simp only [toP, PyData.depth]; omega⟩
    | ref m =>
      simp only [toD] at h
      obtain ⟨p, rfl, hm⟩ := r
      split at h
      · rename_i ws e1
        obtain ⟨ds, e, rfl⟩ := Option.map_eq_some_iff.mp h
        obtain ⟨vs, hs, rv⟩ := R.lst hm e1
        obtain ⟨q1, q2, q3⟩ := all ws vs ds e rv
        exact ⟨.lst (.inl (.inl hs)) q1, by simp only [toP, PyData.canLay0]; exact q2, by simp only [toP, PyData.depth]; omega⟩
      · cases h
    | gd kvs => simp only [toD] at h; cases h
theorem eqW_ok (R : Rep K w ca μ H st) {a b : W} {x y : V} {r : Bool} (h : eqW st a b = some r) (ra : RepV K w μ H a x) (rb : RepV K w μ H b y) :
    ∃ d e, Dp K H x d ∧ Dp K H y e ∧ SeqAt.shaped d = true ∧ SeqAt.shaped e = true ∧ PyData.eqv d e = r := by
  unfold eqW at h
  split at h
  · rename_i d e h1 h2
    cases h
    obtain ⟨d1, d2, d3⟩ := toD_ok R 60 a x d h1 ra
    obtain ⟨e1, e2, e3⟩ := toD_ok R 60 b y e h2 rb
    refine ⟨toP d, toP e, d1, e1, ?_, ?_, eqv_toP d e⟩
    · unfold SeqAt.shaped; rw [d2, decide_eq_true (by omega : (toP d).depth ≤ 64)] <;> rfl
    · unfold SeqAt.shaped; rw [e2, decide_eq_true (by omega : (toP e).depth ≤ 64)] <;> rfl
  · cases h
theorem flat_ok {a : W} {x : V} (r : RepV K w μ H a x) (h : flatW a = true) : flatV x = true := by
  cases a with
  | non => obtain rfl : x = .non := r; rfl
  | bl b => obtain rfl : x = .bl b := r; rfl
  | int b => obtain rfl : x = .int b := r; rfl
  | str b => obtain rfl : x = .str b := r; rfl
  | _ => cases h
theorem flats_ok : ∀ {ws : List W} {vs : List V}, RepVs K w μ H ws vs → ws.all flatW = true → vs.all flatV = true
  | [], _, r, _ => by rw [show _ = _ from r] <;> rfl
  | a :: q, _, r, h => by
    obtain ⟨v, vq, rfl, r1, r2⟩ := r
    rw [List.all_cons, Bool.and_eq_true] at h ⊢
    exact ⟨flat_ok r1 h.1, flats_ok r2 h.2⟩
theorem eqF_ok {a b : W} {x y : V} (ra : RepV K w μ H a x) (rb : RepV K w μ H b y) (fa : flatW a = true) (fb : flatW b = true) : eqF a b = eqV x y := by
  cases a <;> first | cases fa | skip
  all_goals (cases b <;> first | cases fb | skip)
  all_goals (rw [show x = _ from ra, show y = _ from rb]; rfl)
theorem any_ok {b : W} {y : V} (rb : RepV K w μ H b y) (fb : flatW b = true) : ∀ {ws : List W} {vs : List V}, RepVs K w μ H ws vs → ws.all flatW = true → (ws.any fun z => eqF z b) = inV y vs
  | [], _, r, _ => by rw [show _ = _ from r] <;> rfl
  | a :: q, _, r, h => by
    obtain ⟨v, vq, rfl, r1, r2⟩ := r
    rw [List.all_cons, Bool.and_eq_true] at h
    have ih := any_ok rb fb r2 h.2
    unfold inV at ih ⊢
    rw [List.any_cons, List.any_cons, eqF_ok r1 rb h.1 fb, ih]
theorem inF_ok {b : W} {y : V} {ws : List W} {vs : List V} {r : Bool} (h : inF b ws = some r) (rb : RepV K w μ H b y) (rv : RepVs K w μ H ws vs) : flatV y = true ∧ vs.all flatV = true ∧ inV y vs = r := by
  unfold inF at h
  split at h
  · rename_i hf
    rw [Bool.and_eq_true] at hf
    cases h
    exact ⟨flat_ok rb hf.1, flats_ok rv hf.2, (any_ok rb hf.1 rv hf.2).symm⟩
  · cases h
end
/-! ### a dict of the module -/
theorem kd_find {K : PySem.W.Frag} {a : Addr} {kvs : List (Str × Str)} (h : kdB K a kvs = true) (z : Str) :
    ∃ r, PySem.W.nsIn K a z = some r ∧ ((kvs.find? fun p => decide (p.1 = z)).isSome = r.isSome) ∧ ∀ p, (kvs.find? fun p => decide (p.1 = z)) = some p → ∃ t, r = some (.str p.2 t) := by
  unfold kdB at h
  split at h
  · rename_i c es n sl e
    simp only [Bool.and_eq_true, decide_eq_true_eq] at h
    obtain ⟨_, hm⟩ := h
    have key : ∀ (l : List DictEntry) (ks : List (Str × Str)), l.map (fun e => match e.key, e.val with | .str x _, .str y _ => some (x, y) | _, _ => none) = ks.map some →
        l.any (·.refKey) = false ∧ (match l.find? (·.key.isStr z) with | some e => ∃ p t, (ks.find? fun p => decide (p.1 = z)) = some p ∧ e.val = .str p.2 t | none => (ks.find? fun p => decide (p.1 = z)) = none) := by
      intro l
      induction l with
      | nil =>
        intro ks h
        cases ks with
        | nil => exact ⟨rfl, rfl⟩
        | cons p q => cases h
      | cons en r ih =>
        intro ks h
        cases ks with
        | nil => cases h
        | cons p q =>
          rw [List.map_cons, List.map_cons] at h
          injection h with h1 h2
          obtain ⟨i1, i2⟩ := ih q h2
          split at h1
          · rename_i x t y t' ek ev
            cases h1
            refine ⟨?_, ?_⟩
            · rw [List.any_cons, i1]
              simp [DictEntry.refKey, ek]
            · rw [List.find?_cons, List.find?_cons]
              by_cases hz : x = z
              · subst hz
                have e1 : en.key.isStr x = true := by rw [ek]; simp [Value.isStr]
                rw [e1]
                simp only [decide_true]
                exact ⟨(x, y), t', rfl, ev⟩
              · have e1 : en.key.isStr z = false := by rw [ek]; simp [Value.isStr, hz]
                rw [e1]
                simp only [hz, decide_false]
                exact i2
          · cases h1
    obtain ⟨k1, k2⟩ := key es.toList kvs hm
    unfold PySem.W.nsIn
    rw [e]
    simp only
    split at k2
    · rename_i en he
      obtain ⟨p, t, hp, hv⟩ := k2
      rw [he]
      refine ⟨_, rfl, by rw [hp] <;> rfl, fun p' hp' => ?_⟩
      rw [hp] at hp'
      cases hp'
      exact ⟨t, by rw [hv]⟩
    · rename_i he
      rw [he]
      simp only [k1]
      exact ⟨none, rfl, by rw [k2] <;> rfl, fun p hp => by rw [k2] at hp; cases hp⟩
  · cases h
end MPS


set_option Elab.async false
set_option linter.all false
set_option maxRecDepth 100000
set_option autoImplicit false
set_option maxHeartbeats 4000000
/-! S4: comparisons, subscripts, slices: the rules. -/
namespace MPS
open PySem PySem.Spec PyProof.Rows L2 MP
def copO : COp → CmpOp
  | .eq => .Eq | .ne => .NotEq | .lt => .Lt | .le => .LtE | .gt => .Gt | .ge => .GtE | .is => .Is | .isnot => .IsNot | .isin => .In | .notin => .NotIn
section
variable {K : PySem.W.Frag} {w : World} {ca : Str → Addr} {μ : List Addr} {H : Hp} {st : Store}
theorem non_ok {a : W} {x : V} (r : RepV K w μ H a x) : decide (x = .non) = isNil a := by
  cases a with
  | non => obtain rfl := (show x = _ from r); simp [isNil]
  | bl b => obtain rfl := (show x = _ from r); simp [isNil]
  | int b => obtain rfl := (show x = _ from r); simp [isNil]
  | str b => obtain rfl := (show x = _ from r); simp [isNil]
  | tup b => obtain ⟨p, vs, rfl, _⟩ := r; simp [isNil]
  | fro b => obtain ⟨p, vs, rfl, _⟩ := r; simp [isNil]
  | ref b => obtain ⟨p, rfl, _⟩ := r; simp [isNil]
  | gd b => obtain ⟨p, rfl, _⟩ := r; simp [isNil]
theorem sign_of {s : Str} (h : s.length = 1) : s = ⟨#[s.cps.getD 0 0]⟩ := by
  obtain ⟨⟨l⟩⟩ := s
  match l, h with
  | [c], _ => rfl
end
section
variable {X : Cx} (ca : Str → Addr)
def rC (K : PySem.W.Frag) (w : World) (op : COp) : R2 := fun x y H Q => ∃ μ st a b, Rep K w ca μ H st ∧ RepV K w μ H a x ∧ RepV K w μ H b y ∧ Post K w ca (cop op a b st) μ H Q
theorem any_toPs (d : D) : ∀ ds : List D, ((toPs ds).any fun z => PyData.eqv z (toP d)) = ds.any fun z => z.eqv d
  | [] => rfl
  | x :: r => by
    unfold toPs
    rw [List.any_cons, List.any_cons, eqv_toP, any_toPs d r]
/-- in, by data -/
theorem in_deep (hu : X.A.units + 100 < cLine) (neg : Bool) : OpR X (compareOp (if neg then .NotIn else .In)) (fun x y H Q => ∃ μ st a b r, Rep X.K X.w ca μ H st ∧ RepV X.K X.w μ H a x ∧ RepV X.K X.w μ H b y ∧ inD st a b = some r ∧ Q (.bl (if neg then !r else r)) H) := by
  intro pins s σ H x y v u Q I rx ry h
  obtain ⟨μ, st, a, b, r, R, ra, rb, hi, q⟩ := h
  unfold inD at hi
  cases e1 : toD st 60 a with
  | none => rw [e1] at hi; cases hi
  | some d =>
    cases e2 : toD st 60 b with
    | none => rw [e1, e2] at hi; cases hi
    | some e =>
      rw [e1, e2] at hi
      obtain ⟨d1, d2, d3⟩ := toD_ok R 60 a x d e1 ra
      obtain ⟨f1, f2, f3⟩ := toD_ok R 60 b y e e2 rb
      have sd : SeqAt.shaped (toP d) = true := by
        unfold SeqAt.shaped; rw [d2, decide_eq_true (by omega : (toP d).depth ≤ 64)] <;> rfl
      obtain ⟨as, r1⟩ := Dp.reads I (toP d) x v d1 rx
      obtain ⟨bs, r2⟩ := Dp.reads I (toP e) y u f1 ry
      cases e with
      | tup ds =>
        cases hi
        have hxs : PyData.canLayAll0 (toPs ds) = true := by simpa [toP, PyData.canLay0] using f2
        rw [← any_toPs] at q
        cases neg with
        | true => exact SeqAt.notIn_tuple_reads r2 r1 hxs d2 (room_in_shaped sd (by omega)) ⟨.bl _, H, I, rfl, q⟩
        | false => exact SeqAt.in_tuple_reads r2 r1 hxs d2 (room_in_shaped sd (by omega)) ⟨.bl _, H, I, rfl, q⟩
      | lst ds =>
        cases hi
        have hxs : PyData.canLayAll0 (toPs ds) = true := by simpa [toP, PyData.canLay0] using f2
        rw [← any_toPs] at q
        cases neg with
        | true => exact SeqAt.notIn_list_reads r2 r1 hxs d2 (room_in_shaped sd (by omega)) ⟨.bl _, H, I, rfl, q⟩
        | false => exact SeqAt.in_list_reads r2 r1 hxs d2 (room_in_shaped sd (by omega)) ⟨.bl _, H, I, rfl, q⟩
      | _ => cases hi
/-- in, as a fact of the values -/
theorem in_core (hu : X.A.units + 100 < cLine) (neg : Bool) : OpR X (compareOp (if neg then .NotIn else .In)) (fun x y H Q => ∃ μ st a b r, Rep X.K X.w ca μ H st ∧ RepV X.K X.w μ H a x ∧ RepV X.K X.w μ H b y ∧ isin a b st = some r ∧ Q (.bl (if neg then !r else r)) H) := by
  intro pins s σ H x y v u Q I rx ry h
  obtain ⟨μ, st, a, b, r, R, ra, rb, hi, q⟩ := h
  cases b with
  | non => simp [isin] at hi
  | bl b => simp [isin] at hi
  | int b => simp [isin] at hi
  | tup ws =>
    simp only [isin] at hi
    unfold orB at hi
    split at hi
    case h_2 => exact in_deep ca hu neg pins s σ H x _ v u Q I rx ry ⟨μ, st, a, _, r, R, ra, rb, hi, q⟩
    rename_i hi'
    cases hi
    have hi := hi'
    obtain ⟨p, vs, rfl, hs, rv⟩ := rb
    obtain ⟨f1, f2, f3⟩ := inF_ok hi ra rv
    cases neg with
    | true => exact op_notIn_seq pins s σ H x _ v u Q I rx ry ⟨p, vs, rfl, .inr hs, f1, f2, by rw [f3]; exact q⟩
    | false => exact op_in_seq pins s σ H x _ v u Q I rx ry ⟨p, vs, rfl, .inr hs, f1, f2, by rw [f3]; exact q⟩
  | fro ws =>
    simp only [isin] at hi
    unfold orB at hi
    split at hi
    case h_2 => exact in_deep ca hu neg pins s σ H x _ v u Q I rx ry ⟨μ, st, a, _, r, R, ra, rb, hi, q⟩
    rename_i hi'
    cases hi
    have hi := hi'
    obtain ⟨p, vs, rfl, hs, rv⟩ := rb
    obtain ⟨f1, f2, f3⟩ := inF_ok hi ra rv
    cases neg with
    | true => exact op_notIn_seq pins s σ H x _ v u Q I rx ry ⟨p, vs, rfl, .inl hs.sq, f1, f2, by rw [f3]; exact q⟩
    | false => exact op_in_seq pins s σ H x _ v u Q I rx ry ⟨p, vs, rfl, .inl hs.sq, f1, f2, by rw [f3]; exact q⟩
  | ref n =>
    simp only [isin] at hi
    split at hi
    · rename_i ws e1
      unfold orB at hi
      split at hi
      case h_2 => exact in_deep ca hu neg pins s σ H x _ v u Q I rx ry ⟨μ, st, a, _, r, R, ra, rb, hi, q⟩
      rename_i hi'
      cases hi
      have hi := hi'
      obtain ⟨p, rfl, hm⟩ := rb
      obtain ⟨vs, hs, rv⟩ := R.lst hm e1
      obtain ⟨f1, f2, f3⟩ := inF_ok hi ra rv
      cases neg with
      | true => exact op_notIn_seq pins s σ H x _ v u Q I rx ry ⟨p, vs, rfl, .inl (.inl (.inl hs)), f1, f2, by rw [f3]; exact q⟩
      | false => exact op_in_seq pins s σ H x _ v u Q I rx ry ⟨p, vs, rfl, .inl (.inl (.inl hs)), f1, f2, by rw [f3]; exact q⟩
    · cases hi
  | gd kvs =>
    obtain ⟨p, rfl, hk, es, n, D⟩ := rb
    obtain ⟨z, rfl⟩ : ∃ z, a = .str z := by cases a <;> first | exact ⟨_, rfl⟩ | (simp only [isin] at hi; cases hi)
    simp only [isin] at hi
    cases hi
    obtain ⟨r', h1, h2, _⟩ := kd_find hk z
    have e : r'.isSome = (kvs.any fun p => decide (p.1 = z)) := by
      rw [← h2]
      cases hb : kvs.any fun p => decide (p.1 = z) with
      | true =>
        rw [List.find?_isSome]
        simpa [List.any_eq_true] using hb
      | false =>
        rw [Option.isSome_eq_false_iff, Option.isNone_iff_eq_none, List.find?_eq_none]
        simpa [List.any_eq_false] using hb
    cases neg with
    | true => exact op_notIn_kd D pins s σ H x _ v u Q I rx ry ⟨z, r', ra, rfl, h1, by rw [e]; exact q⟩
    | false => exact op_in_kd D pins s σ H x _ v u Q I rx ry ⟨z, r', ra, rfl, h1, by rw [e]; exact q⟩
  | str z =>
    obtain ⟨t, rfl⟩ : ∃ z, a = .str z := by cases a <;> first | exact ⟨_, rfl⟩ | (simp only [isin] at hi; cases hi)
    simp only [isin] at hi
    split at hi
    · rename_i hl
      cases hi
      have e := sign_of hl
      have ex : x = .str ⟨#[t.cps.getD 0 0]⟩ := by rw [← e]; exact ra
      cases neg with
      | true => exact op_notIn_sign pins s σ H x _ v u Q I rx ry ⟨_, z, ex, rb, q⟩
      | false => exact op_in_sign pins s σ H x _ v u Q I rx ry ⟨_, z, ex, rb, q⟩
    · cases hi
theorem or_cop (hu : X.A.units + 100 < cLine) (op : COp) : OpR X (compareOp (copO op)) (rC ca X.K X.w op) := by
  intro pins s σ H x y v u Q I rx ry h
  obtain ⟨μ, st, a, b, R, ra, rb, h⟩ := h
  have intc : ∀ (f : Int → Int → Bool) (o : CmpOp), OpR X (compareOp o) (rI0 fun i j => .bl (f i j)) → Post X.K X.w ca (cmpI f a b st) μ H Q → wpAny (model X.prog X.w) X.A (compareOp o v u) (EP X pins σ Q) X.xe s := by
    intro f o ho h
    cases a with
    | int i =>
      cases b with
      | int j => exact ho pins s σ H x y v u Q I rx ry ⟨i, j, ra, rb, PostG.now h R rfl⟩
      | _ => exact h.elim
    | _ => exact h.elim
  cases op with
  | eq =>
    simp only [cop] at h
    split at h
    · rename_i r e
      obtain ⟨d, e', h1, h2, h3, h4, h5⟩ := eqW_ok R e ra rb
      exact op_eqD (by omega) pins s σ H x y v u Q I rx ry ⟨d, e', h1, h2, h3, h4, by rw [h5]; exact h.now R rfl⟩
    · exact h.elim
  | ne =>
    simp only [cop] at h
    split at h
    · rename_i r e
      obtain ⟨d, e', h1, h2, h3, h4, h5⟩ := eqW_ok R e ra rb
      exact op_neD (by omega) pins s σ H x y v u Q I rx ry ⟨d, e', h1, h2, h3, h4, by rw [h5]; exact h.now R rfl⟩
    · exact h.elim
  | lt => exact intc _ _ op_lt h
  | le => exact intc _ _ op_le h
  | gt => exact intc _ _ op_gt h
  | ge => exact intc _ _ op_ge h
  | is =>
    simp only [cop] at h
    cases b <;> first | exact h.elim | skip
    obtain rfl : y = .non := rb
    exact op_isN pins s σ H x _ v u Q I rx ry ⟨rfl, by rw [non_ok ra]; exact h.now R rfl⟩
  | isnot =>
    simp only [cop] at h
    cases b <;> first | exact h.elim | skip
    obtain rfl : y = .non := rb
    exact op_notN pins s σ H x _ v u Q I rx ry ⟨rfl, by
      rw [non_ok ra]
      exact h.now R rfl⟩
  | isin =>
    simp only [cop] at h
    split at h
    · rename_i r e
      exact in_core ca hu false pins s σ H x y v u Q I rx ry ⟨μ, st, a, b, r, R, ra, rb, e, h.now R rfl⟩
    · exact h.elim
  | notin =>
    simp only [cop] at h
    split at h
    · rename_i r e
      exact in_core ca hu true pins s σ H x y v u Q I rx ry ⟨μ, st, a, b, r, R, ra, rb, e, h.now R rfl⟩
    · exact h.elim
/-! ### subscripts -/
theorem at_ok {K : PySem.W.Frag} {w : World} {μ : List Addr} {H : Hp} {ws : List W} {vs : List V} {i : Int} {a : W} (r : RepVs K w μ H ws vs) (h : at? ws i = some a) : ∃ v, atI vs i = some v ∧ RepV K w μ H a v := by
  unfold at? at h
  obtain ⟨j, h1, h2⟩ := Option.bind_eq_some_iff.mp h
  obtain ⟨v, e, rv⟩ := repVs_get r h2
  refine ⟨v, ?_, rv⟩
  unfold atI
  have : ixN vs.length i = some j := by rw [repVs_len r]; exact h1
  rw [this]; exact e
def rIxW (K : PySem.W.Frag) (w : World) : R2 := fun x y H Q => ∃ μ st a b, Rep K w ca μ H st ∧ RepV K w μ H a x ∧ RepV K w μ H b y ∧ Post K w ca (ixW a b st) μ H Q
theorem repK_get {K : PySem.W.Frag} {w : World} {μ : List Addr} {H : Hp} {k : MP.Key} : ∀ {kvs : List (MP.Key × W)} {q : List (L2.Key × V)} {a : W}, RepK K w μ H kvs q → kget kvs k = some a → ∃ v, valV q k = some v ∧ RepV K w μ H a v
  | [], _, a, _, h => by simp [kget] at h
  | p :: r, _, a, rk, h => by
    obtain ⟨v, s, rfl, r1, r2⟩ := rk
    unfold kget at h
    rw [List.find?_cons] at h
    by_cases hp : p.1 = k
    · simp only [hp, decide_true, Option.map_some, Option.some.injEq] at h
      subst h
      exact ⟨v, valV_pos hp, r1⟩
    · simp only [hp, decide_false] at h
      obtain ⟨v', e, r'⟩ := repK_get r2 h
      exact ⟨v', by rw [valV_neg hp]; exact e, r'⟩
theorem repK_none {K : PySem.W.Frag} {w : World} {μ : List Addr} {H : Hp} {k : MP.Key} : ∀ {kvs : List (MP.Key × W)} {q : List (L2.Key × V)}, RepK K w μ H kvs q → kget kvs k = none → valV q k = none
  | [], _, rk, h => by rw [show _ = _ from rk]; rfl
  | p :: r, _, rk, h => by
    obtain ⟨v, s, rfl, r1, r2⟩ := rk
    unfold kget at h
    rw [List.find?_cons] at h
    by_cases hp : p.1 = k
    · simp only [hp, decide_true, Option.map_some] at h
      cases h
    · simp only [hp, decide_false] at h
      rw [valV_neg hp]
      exact repK_none r2 h
theorem key_ok {K : PySem.W.Frag} {w : World} {μ : List Addr} {H : Hp} {a : W} {x : V} {k : MP.Key} (r : RepV K w μ H a x) (h : keyW a = some k) : x = kV k := by
  cases a <;> simp [keyW] at h <;> (subst h; exact r)
theorem ix_dict (hu : X.A.units + 1 < cLine) : IxR X (fun x y H Q => ∃ a q k v, x = .ref a ∧ y = kV k ∧ H a = some (.dK q) ∧ valV q k = some v ∧ Q v H) := by
  intro value slice pins s σ H x y v u Q I rx ry h hs
  obtain ⟨a, q, k, z, rfl, rfl, e, hv, h⟩ := h
  obtain rfl : v = Value.ref a := rx
  have g : DGet H a (kV k) (some z) := by rw [← hv]; exact DGet.k e
  exact tail_any (dict_typeIs I g) PySem.F.slot_dict_getitem.lookup (d_getItem hu I g ry fun w' s3 I3 rw' => ⟨z, H, I3, rw', h⟩) hs
theorem ix_ok (hu : X.A.units + 1 < cLine) : IxR X (rIxW ca X.K X.w) := by
  intro value slice pins s σ H x y v u Q I rx ry h hs
  obtain ⟨μ, st, a, b, R, ra, rb, h⟩ := h
  cases a with
  | non => exact h.elim
  | bl _ => exact h.elim
  | int _ => exact h.elim
  | tup ws =>
    cases b <;> first | exact h.elim | skip
    rename_i i
    simp only [ixW] at h
    cases e : at? ws i with
    | none => rw [e] at h; exact h.elim
    | some c =>
      rw [e] at h
      obtain ⟨p, vs, rfl, hq, rv⟩ := ra
      obtain ⟨z, hz, rz⟩ := at_ok rv e
      exact ix_tup value slice pins s σ H _ y v u Q I rx ry ⟨p, vs, i, z, rfl, rb, hq, hz, h.now R rz⟩ hs
  | fro ws =>
    cases b <;> first | exact h.elim | skip
    rename_i i
    simp only [ixW] at h
    cases e : at? ws i with
    | none => rw [e] at h; exact h.elim
    | some c =>
      rw [e] at h
      obtain ⟨p, vs, rfl, hq, rv⟩ := ra
      obtain ⟨z, hz, rz⟩ := at_ok rv e
      exact ix_list value slice pins s σ H _ y v u Q I rx ry ⟨p, vs, i, z, rfl, rb, hq.sq, hz, h.now R rz⟩ hs
  | str t =>
    cases b <;> first | exact h.elim | skip
    rename_i i
    simp only [ixW] at h
    split at h
    · rename_i hl
      cases e : at? t.cps.toList i with
      | none => rw [e] at h; exact h.elim
      | some c =>
        rw [e] at h
        exact ix_str value slice pins s σ H x y v u Q I rx ry ⟨t, i, c, ra, rb, hl, e, h.now R rfl⟩ hs
    · exact h.elim
  | gd kvs =>
    cases b <;> first | exact h.elim | skip
    rename_i z
    simp only [ixW] at h
    obtain ⟨p, rfl, hk, es, n, D⟩ := ra
    obtain ⟨r', h1, h2, h3⟩ := kd_find hk z
    cases e : kvs.find? fun p => decide (p.1 = z) with
    | none => rw [e] at h; exact h.elim
    | some c =>
      rw [e] at h
      obtain ⟨t, et⟩ := h3 c e
      subst et
      exact ix_kdict value slice pins s σ H _ y v u Q I rx ry ⟨p, z, .str c.2, rfl, rb, ⟨es, n, _, D.at_, D.lit, h1, ⟨t, rfl⟩⟩, h.now R rfl⟩ hs
  | ref m =>
    simp only [ixW] at h
    obtain ⟨p, rfl, hm⟩ := ra
    split at h
    · rename_i ws e1
      cases b <;> first | exact h.elim | skip
      rename_i i
      cases e : at? ws i with
      | none => simp only [e] at h; exact h.elim
      | some c =>
        simp only [e] at h
        obtain ⟨vs, hq, rv⟩ := R.lst hm e1
        obtain ⟨z, hz, rz⟩ := at_ok rv e
        exact ix_list value slice pins s σ H _ y v u Q I rx ry ⟨p, vs, i, z, rfl, rb, .inl (.inl hq), hz, h.now R rz⟩ hs
    · rename_i kvs e1
      split at h
      · rename_i k ek
        cases e : kget kvs k with
        | none => rw [e] at h; exact h.elim
        | some c =>
          rw [e] at h
          obtain ⟨q, hq, rk⟩ := R.obj m p _ hm e1
          obtain ⟨z, hz, rz⟩ := repK_get rk e
          exact ix_dict hu value slice pins s σ H _ y v u Q I rx ry ⟨p, q, k, z, rfl, key_ok rb ek, hq, hz, h.now R rz⟩ hs
      · exact h.elim
    · exact h.elim
/-! ### slices -/
def rSlW (K : PySem.W.Frag) (w : World) : V → Option Int → Option Int → Hp → VK → Prop := fun x lo hi H Q => ∃ μ st a, Rep K w ca μ H st ∧ RepV K w μ H a x ∧ Post K w ca (slW a lo hi st) μ H Q
theorem sIx_eq (n d : Nat) (o : Option Int) : HT.sIx n d o = MP.sIx n d o := by
  cases o with
  | none => rfl
  | some v => rfl
theorem cutV_ok {K : PySem.W.Frag} {w : World} {μ : List Addr} {H : Hp} {ws : List W} {vs : List V} (r : RepVs K w μ H ws vs) (lo hi : Option Int) : RepVs K w μ H (cut ws lo hi) (cutV vs lo hi) := by
  unfold cut cutV
  rw [sIx_eq, sIx_eq, repVs_len r]
  exact repVs_take _ (repVs_drop _ r)
theorem sl_ok : SlR X (rSlW ca X.K X.w) := by
  intro pins s σ H x v vl vu lo hi sl Q I rx hs pl pu h
  obtain ⟨μ, st, a, R, ra, h⟩ := h
  cases a with
  | non => exact h.elim
  | bl _ => exact h.elim
  | int _ => exact h.elim
  | gd _ => exact h.elim
  | tup ws =>
    simp only [slW] at h
    obtain ⟨p, vs, rfl, hq, rv⟩ := ra
    refine sl_tupA pins s σ H _ v vl vu lo hi sl Q I rx hs pl pu ⟨p, vs, rfl, hq, fun hw => ?_, fun _ c hc => Post.tup h R hc (cutV_ok rv lo hi)⟩
    have e : cut ws lo hi = ws := by
      unfold cut
      rw [← sIx_eq, ← sIx_eq, ← repVs_len rv, hw.1, hw.2]
      rw [repVs_len rv]
      simp
    rw [e] at h
    exact h.now R ⟨p, vs, rfl, hq, rv⟩
  | fro ws =>
    simp only [slW] at h
    obtain ⟨p, vs, rfl, hq, rv⟩ := ra
    exact sl_list pins s σ H _ v vl vu lo hi sl Q I rx hs pl pu ⟨p, vs, rfl, hq.sq, fun c hc => Post.new h R hc ⟨_, upd_same, repVs_ext R (ext_new hc (R.outN hc)) (cutV_ok rv lo hi)⟩⟩
  | str t =>
    simp only [slW] at h
    split at h
    · rename_i hl
      refine sl_str pins s σ H x v vl vu lo hi sl Q I rx hs pl pu ⟨t, ra, hl, ?_⟩
      have e : cutS t lo hi = ⟨(cut t.cps.toList lo hi).toArray⟩ := by
        unfold cutS cut
        rw [sIx_eq, sIx_eq]
        rfl
      rw [e]
      exact h.now R rfl
    · exact h.elim
  | ref m =>
    simp only [slW] at h
    obtain ⟨p, rfl, hm⟩ := ra
    split at h
    · rename_i ws e1
      obtain ⟨vs, hq, rv⟩ := R.lst hm e1
      exact sl_list pins s σ H _ v vl vu lo hi sl Q I rx hs pl pu ⟨p, vs, rfl, .inl (.inl hq), fun c hc => Post.new h R hc ⟨_, upd_same, repVs_ext R (ext_new hc (R.outN hc)) (cutV_ok rv lo hi)⟩⟩
    · exact h.elim
end
end MPS


set_option Elab.async false
set_option linter.all false
set_option maxRecDepth 100000
set_option autoImplicit false
set_option maxHeartbeats 4000000
/-! S5: builtin functions. -/
namespace MPS
open PySem PySem.Spec PyProof.Rows L2 MP
/-! ### sorted texts, sorted numbers -/
theorem ltL_eq : ∀ a b : List Nat, ltCps a b = ltL a b
  | [], [] => rfl
  | [], _ :: _ => rfl
  | _ :: _, [] => rfl
  | a :: r, b :: t => by simp only [ltCps, ltL, ltL_eq r t]
theorem ltL_irrefl : ∀ a : List Nat, ltL a a = false
  | [] => rfl
  | a :: r => by simp [ltL, ltL_irrefl r]
theorem ltL_trans : ∀ a b c : List Nat, ltL a b = true → ltL b c = true → ltL a c = true
  | [], [], _, h, _ => by cases h
  | [], _ :: _, [], _, h => by cases h
  | [], _ :: _, _ :: _, _, _ => rfl
  | _ :: _, [], _, h, _ => by cases h
  | _ :: _, _ :: _, [], _, h => by cases h
  | a :: r, b :: t, c :: q, h1, h2 => by
    simp only [ltL, Bool.or_eq_true, decide_eq_true_eq, Bool.and_eq_true, beq_iff_eq] at h1 h2 ⊢
    rcases h1 with h1 | ⟨h1, h1'⟩
    · rcases h2 with h2 | ⟨h2, _⟩
      · exact .inl (by omega)
      · exact .inl (by omega)
    · rcases h2 with h2 | ⟨h2, h2'⟩
      · exact .inl (by omega)
      · exact .inr ⟨by omega, ltL_trans r t q h1' h2'⟩
theorem ltL_tri : ∀ a b : List Nat, ltL a b = false → ltL b a = false → a = b
  | [], [], _, _ => rfl
  | [], _ :: _, h, _ => by cases h
  | _ :: _, [], _, h => by cases h
  | a :: r, b :: t, h1, h2 => by
    simp only [ltL, Bool.or_eq_false_iff, decide_eq_false_iff_not, Bool.and_eq_false_iff, beq_eq_false_iff_ne] at h1 h2
    have e : a = b := by omega
    subst e
    have h1' := h1.2.resolve_left (fun z => z rfl)
    have h2' := h2.2.resolve_left (fun z => z rfl)
    rw [ltL_tri r t h1' h2']
theorem leS_trans {a b c : List Nat} (h1 : leS a b = true) (h2 : leS b c = true) : leS a c = true := by
  unfold leS at h1 h2 ⊢
  rw [Bool.not_eq_true'] at h1 h2 ⊢
  cases h : ltL c a with
  | false => rfl
  | true =>
    cases h3 : ltL a b with
    | true => rw [ltL_trans c a b h h3] at h2; cases h2
    | false =>
      have := ltL_tri a b h3 h1
      subst this
      rw [h] at h2; cases h2
theorem leS_total {a b : List Nat} (h : leS a b = false) : leS b a = true := by
  unfold leS at h ⊢
  rw [Bool.not_eq_false'] at h
  rw [Bool.not_eq_true']
  cases h2 : ltL a b with
  | false => rfl
  | true =>
    have := ltL_trans _ _ _ h h2
    rw [ltL_irrefl] at this; cases this
abbrev SrtdS (l : List Str) : Prop := l.Pairwise fun a b => leS a.cps.toList b.cps.toList = true
theorem insS_ok (x : Str) : ∀ l : List Str, SrtdS l → SrtdS (insS x l) ∧ (insS x l).Perm (x :: l)
  | [], _ => ⟨List.pairwise_singleton _ _, .refl _⟩
  | y :: r, h => by
    unfold insS
    split
    · rename_i hxy
      refine ⟨List.pairwise_cons.mpr ⟨fun z hz => ?_, h⟩, .refl _⟩
      rcases List.mem_cons.mp hz with rfl | hz
      · exact hxy
      · exact leS_trans hxy ((List.pairwise_cons.mp h).1 z hz)
    · rename_i hxy
      obtain ⟨h1, h2⟩ := List.pairwise_cons.mp h
      obtain ⟨i1, i2⟩ := insS_ok x r h2
      refine ⟨List.pairwise_cons.mpr ⟨fun z hz => ?_, i1⟩, (i2.cons y).trans (.swap x y r)⟩
      rcases List.mem_cons.mp (i2.mem_iff.mp hz) with rfl | hz
      · exact leS_total (Bool.eq_false_iff.mpr hxy)
      · exact h1 z hz
theorem sortS_ok : ∀ l : List Str, SrtdS (sortS l) ∧ (sortS l).Perm l
  | [] => ⟨.nil, .refl _⟩
  | x :: r => by
    obtain ⟨h1, h2⟩ := sortS_ok r
    obtain ⟨i1, i2⟩ := insS_ok x _ h1
    exact ⟨i1, i2.trans (h2.cons x)⟩
theorem rising_pw : ∀ (p : Str) (l : List Str), risingS p l = true → SrtdS (p :: l)
  | p, [], _ => List.pairwise_singleton _ _
  | p, x :: r, h => by
    unfold risingS at h
    rw [Bool.and_eq_true, ltL_eq] at h
    have ih := rising_pw x r h.2
    refine List.pairwise_cons.mpr ⟨fun z hz => ?_, ih⟩
    have hpx : leS p.cps.toList x.cps.toList = true := h.1
    rcases List.mem_cons.mp hz with rfl | hz
    · exact hpx
    · exact leS_trans hpx ((List.pairwise_cons.mp ih).1 z hz)
theorem sortedS_pw : ∀ {l : List Str}, sortedS l = true → SrtdS l
  | [], _ => .nil
  | x :: r, h => rising_pw x r h
theorem sortS_uniq {ys ks : List Str} (hp : ys.Perm ks) (hs : sortedS ys = true) : ys = sortS ks := by
  obtain ⟨h1, h2⟩ := sortS_ok ks
  refine List.Perm.eq_of_pairwise (fun a b _ _ hab hba => ?_) (sortedS_pw hs) h1 (hp.trans h2.symm)
  unfold leS at hab hba
  rw [Bool.not_eq_true'] at hab hba
  obtain ⟨⟨l⟩⟩ := a
  obtain ⟨⟨q⟩⟩ := b
  have e : l = q := ltL_tri l q hba hab
  rw [e]
abbrev SrtdI (l : List Int) : Prop := l.Pairwise (· ≤ ·)
theorem insI_ok (x : Int) : ∀ l : List Int, SrtdI l → SrtdI (insI x l) ∧ (insI x l).Perm (x :: l)
  | [], _ => ⟨List.pairwise_singleton _ _, .refl _⟩
  | y :: r, h => by
    unfold insI
    split
    · rename_i hxy
      refine ⟨List.pairwise_cons.mpr ⟨fun z hz => ?_, h⟩, .refl _⟩
      rcases List.mem_cons.mp hz with rfl | hz
      · exact hxy
      · exact Int.le_trans hxy ((List.pairwise_cons.mp h).1 z hz)
    · rename_i hxy
      obtain ⟨h1, h2⟩ := List.pairwise_cons.mp h
      obtain ⟨i1, i2⟩ := insI_ok x r h2
      refine ⟨List.pairwise_cons.mpr ⟨fun z hz => ?_, i1⟩, (i2.cons y).trans (.swap x y r)⟩
      rcases List.mem_cons.mp (i2.mem_iff.mp hz) with rfl | hz
      · omega
      · exact h1 z hz
theorem sortI_ok : ∀ l : List Int, SrtdI (sortI l) ∧ (sortI l).Perm l
  | [] => ⟨.nil, .refl _⟩
  | x :: r => by
    obtain ⟨h1, h2⟩ := sortI_ok r
    obtain ⟨i1, i2⟩ := insI_ok x _ h1
    exact ⟨i1, i2.trans (h2.cons x)⟩
theorem sortI_uniq {ys ks : List Int} (hp : ys.Perm ks) (hs : ys.Pairwise (· ≤ ·)) : ys = sortI ks := by
  obtain ⟨h1, h2⟩ := sortI_ok ks
  exact List.Perm.eq_of_pairwise (fun a b _ _ hab hba => Int.le_antisymm hab hba) hs h1 (hp.trans h2.symm)
theorem maxL_ok : ∀ (l : List Int), l ≠ [] → maxL l ∈ l ∧ ∀ y ∈ l, y ≤ maxL l
  | [], h => absurd rfl h
  | [a], _ => ⟨by simp [maxL], fun y hy => by simp at hy; subst hy; simp [maxL]⟩
  | a :: b :: r, _ => by
    obtain ⟨h1, h2⟩ := maxL_ok (b :: r) (by simp)
    unfold maxL
    dsimp only
    split
    · exact ⟨List.mem_cons_of_mem _ h1, fun y hy => by
        rcases List.mem_cons.mp hy with rfl | hy
        · omega
        · exact h2 y hy⟩
    · exact ⟨List.mem_cons_self, fun y hy => by
        rcases List.mem_cons.mp hy with rfl | hy
        · omega
        · have := h2 y hy; omega⟩
theorem minL_ok : ∀ (l : List Int), l ≠ [] → minL l ∈ l ∧ ∀ y ∈ l, minL l ≤ y
  | [], h => absurd rfl h
  | [a], _ => ⟨by simp [minL], fun y hy => by simp at hy; subst hy; simp [minL]⟩
  | a :: b :: r, _ => by
    obtain ⟨h1, h2⟩ := minL_ok (b :: r) (by simp)
    unfold minL
    dsimp only
    split
    · exact ⟨List.mem_cons_of_mem _ h1, fun y hy => by
        rcases List.mem_cons.mp hy with rfl | hy
        · omega
        · exact h2 y hy⟩
    · exact ⟨List.mem_cons_self, fun y hy => by
        rcases List.mem_cons.mp hy with rfl | hy
        · omega
        · have := h2 y hy; omega⟩
section
variable {K : PySem.W.Frag} {w : World} {ca : Str → Addr} {μ : List Addr} {H : Hp} {st : Store}
theorem allInts_ok : ∀ {ws : List W} {vs : List V} {ns : List Int}, allInts ws = some ns → RepVs K w μ H ws vs → vs = ns.map V.int
  | [], _, _, h, r => by cases h; exact r
  | a :: q, _, ns, h, r => by
    obtain ⟨v, vq, rfl, r1, r2⟩ := r
    cases a <;> simp only [allInts] at h <;> try (cases h)
    rename_i i
    obtain ⟨ms, e, rfl⟩ := Option.map_eq_some_iff.mp h
    rw [List.map_cons, ← allInts_ok e r2]
    obtain rfl : v = .int i := r1
    rfl
theorem allStrs_ok : ∀ {ws : List W} {vs : List V} {ns : List Str}, allStrs ws = some ns → RepVs K w μ H ws vs → vs = ns.map V.str
  | [], _, _, h, r => by cases h; exact r
  | a :: q, _, ns, h, r => by
    obtain ⟨v, vq, rfl, r1, r2⟩ := r
    cases a <;> simp only [allStrs] at h <;> try (cases h)
    rename_i i
    obtain ⟨ms, e, rfl⟩ := Option.map_eq_some_iff.mp h
    rw [List.map_cons, ← allStrs_ok e r2]
    obtain rfl : v = .str i := r1
    rfl
theorem repVs_strs : ∀ (l : List Str), RepVs K w μ H (l.map W.str) (l.map V.str)
  | [] => rfl
  | x :: r => ⟨.str x, r.map V.str, rfl, rfl, repVs_strs r⟩
theorem repVs_ints : ∀ (l : List Int), RepVs K w μ H (l.map W.int) (l.map V.int)
  | [] => rfl
  | x :: r => ⟨.int x, r.map V.int, rfl, rfl, repVs_ints r⟩
theorem keysS_ok : ∀ {kvs : List (MP.Key × W)} {q : List (L2.Key × V)} {ks : List Str}, keysS kvs = some ks → RepK K w μ H kvs q → q.map (·.1) = ks.map Sum.inr
  | [], _, _, h, r => by cases h; rw [show _ = _ from r]; rfl
  | (.inr x, a) :: r, _, ks, h, rk => by
    obtain ⟨v, s, rfl, r1, r2⟩ := rk
    simp only [keysS] at h
    obtain ⟨ms, e, rfl⟩ := Option.map_eq_some_iff.mp h
    rw [List.map_cons, List.map_cons, keysS_ok e r2]
  | (.inl x, a) :: r, _, ks, h, rk => by simp [keysS] at h
theorem keysI_ok : ∀ {kvs : List (MP.Key × W)} {q : List (L2.Key × V)} {ks : List Int}, keysI kvs = some ks → RepK K w μ H kvs q → q.map (·.1) = ks.map Sum.inl
  | [], _, _, h, r => by cases h; rw [show _ = _ from r]; rfl
  | (.inl x, a) :: r, _, ks, h, rk => by
    obtain ⟨v, s, rfl, r1, r2⟩ := rk
    simp only [keysI] at h
    obtain ⟨ms, e, rfl⟩ := Option.map_eq_some_iff.mp h
    rw [List.map_cons, List.map_cons, keysI_ok e r2]
  | (.inr x, a) :: r, _, ks, h, rk => by simp [keysI] at h
/-- what stands as a sequence -/
theorem seq_ok (R : Rep K w ca μ H st) {a : W} {x : V} {ws : List W} (h : seqOf a st = some ws) (r : RepV K w μ H a x) : ∃ p vs, x = .ref p ∧ RepVs K w μ H ws vs ∧ ((SqL K H p vs ∧ (∀ l, a ≠ .tup l)) ∨ (SqT K H p vs ∧ a = .tup ws)) := by
  cases a <;> simp only [seqOf] at h <;> try (cases h)
  · obtain ⟨p, vs, rfl, hs, rv⟩ := r
    exact ⟨p, vs, rfl, rv, .inr ⟨hs, rfl⟩⟩
  · rename_i n
    obtain ⟨p, rfl, hm⟩ := r
    split at h
    · rename_i l e
      cases h
      obtain ⟨vs, hs, rv⟩ := R.lst hm e
      exact ⟨p, vs, rfl, rv, .inl ⟨.inl (.inl hs), fun l z => by cases z⟩⟩
    · cases h
  · obtain ⟨p, vs, rfl, hs, rv⟩ := r
    exact ⟨p, vs, rfl, rv, .inl ⟨hs.sq, fun l z => by cases z⟩⟩
/-! ### dicts -/
theorem repK_len : ∀ {a : List (MP.Key × W)} {q : List (L2.Key × V)}, RepK K w μ H a q → q.length = a.length
  | [], _, h => by rw [show _ = _ from h]; rfl
  | p :: r, _, h => by
    obtain ⟨v, s, rfl, _, h2⟩ := h
    rw [List.length_cons, List.length_cons, repK_len h2]
theorem repK_any {k : MP.Key} : ∀ {a : List (MP.Key × W)} {q : List (L2.Key × V)}, RepK K w μ H a q → (q.any fun kv => decide (kv.1 = k)) = (a.any fun kv => decide (kv.1 = k))
  | [], _, h => by rw [show _ = _ from h]; rfl
  | p :: r, _, h => by
    obtain ⟨v, s, rfl, _, h2⟩ := h
    rw [List.any_cons, List.any_cons, repK_any h2]
theorem repK_map {k : MP.Key} {a : W} {v : V} (rv : RepV K w μ H a v) : ∀ {l : List (MP.Key × W)} {q : List (L2.Key × V)}, RepK K w μ H l q → RepK K w μ H (l.map fun p => if p.1 = k then (p.1, a) else p) (q.map fun p => if p.1 = k then (p.1, v) else p)
  | [], _, h => by rw [show _ = _ from h]; exact rfl
  | p :: r, _, h => by
    obtain ⟨u, s, rfl, h1, h2⟩ := h
    rw [List.map_cons, List.map_cons]
    by_cases hp : p.1 = k
    · rw [if_pos hp, if_pos hp]
      exact ⟨v, _, rfl, rv, repK_map rv h2⟩
    · rw [if_neg hp, if_neg hp]
      exact ⟨u, _, rfl, h1, repK_map rv h2⟩
theorem repK_app : ∀ {a b : List (MP.Key × W)} {q s : List (L2.Key × V)}, RepK K w μ H a q → RepK K w μ H b s → RepK K w μ H (a ++ b) (q ++ s)
  | [], _, _, _, h, k => by rw [show _ = _ from h]; exact k
  | p :: r, b, _, s, h, k => by
    obtain ⟨u, z, rfl, h1, h2⟩ := h
    exact ⟨u, z ++ s, rfl, h1, repK_app h2 k⟩
theorem repK_put {k : MP.Key} {a : W} {v : V} (rv : RepV K w μ H a v) {l : List (MP.Key × W)} {q : List (L2.Key × V)} (h : RepK K w μ H l q) : RepK K w μ H (kput l k a) (putK q k v) := by
  unfold kput putK
  rw [repK_any h]
  split
  · exact repK_map rv h
  · exact repK_app h ⟨v, [], rfl, rv, rfl⟩
theorem repK_merge : ∀ {more : List (MP.Key × W)} {mq : List (L2.Key × V)} {l : List (MP.Key × W)} {q : List (L2.Key × V)}, RepK K w μ H more mq → RepK K w μ H l q → RepK K w μ H (mergeW l more) (mergeK q mq)
  | [], _, _, _, h, k => by rw [show _ = _ from h]; exact k
  | p :: r, _, l, q, h, k => by
    obtain ⟨u, z, rfl, h1, h2⟩ := h
    show RepK K w μ H (mergeW (kput l p.1 p.2) r) (mergeK (putK q p.1 u) z)
    exact repK_merge h2 (repK_put h1 k)
end
section
variable {X : Cx} (ca : Str → Addr)
def bltV : Blt → Value
  | .len => .builtin "len" | .int => .type "int" | .tuple => .type "tuple" | .list => .type "list" | .dict => .type "dict" | .sorted => .builtin "sorted"
  | .max => .builtin "max" | .min => .builtin "min" | .sum => .builtin "sum" | .abs => .builtin "abs" | .str => .type "str" | .lenset => .none
def rBlt (K : PySem.W.Frag) (w : World) (b : Blt) : List V → Hp → VK → Prop := fun xs H Q => ∃ μ st ws, Rep K w ca μ H st ∧ RepVs K w μ H ws xs ∧ Post K w ca (bltW b ws st) μ H Q
theorem two_ok {K : PySem.W.Frag} {w : World} {μ : List Addr} {H : Hp} {a b : W} {xs : List V} (r : RepVs K w μ H [a, b] xs) : ∃ x y, xs = [x, y] ∧ RepV K w μ H a x ∧ RepV K w μ H b y := by
  obtain ⟨x, q, rfl, r1, y, q2, rfl, r2, rfl⟩ := r
  exact ⟨x, y, rfl, r1, r2⟩
theorem one_ok {K : PySem.W.Frag} {w : World} {μ : List Addr} {H : Hp} {a : W} {xs : List V} (r : RepVs K w μ H [a] xs) : ∃ x, xs = [x] ∧ RepV K w μ H a x := by
  obtain ⟨x, q, rfl, r1, rfl⟩ := r
  exact ⟨x, rfl, r1⟩
theorem pairsOf_ok {K : PySem.W.Frag} {w : World} {μ : List Addr} {H : Hp} : ∀ {ws : List W} {vs : List V} {kvs : List (MP.Key × W)}, MP.pairsOf ws = some kvs → RepVs K w μ H ws vs →
    ∃ (ps : List Addr) (q : List (L2.Key × V)), vs = ps.map V.ref ∧ Paired (fun p kv => SqT K H p [kV kv.1, kv.2]) ps q ∧ RepK K w μ H kvs q
  | [], _, _, h, r => by cases h; exact ⟨[], [], r, .nil, rfl⟩
  | a :: rest, _, kvs, h, r => by
    obtain ⟨v, vq, rfl, r1, r2⟩ := r
    unfold MP.pairsOf at h
    split at h
    · rename_i heq; cases heq
    · rename_i a' b' r' heq
      cases heq
      split at h
      · rename_i k s e1 e2
        cases h
        obtain ⟨p, us, rfl, hs, ru⟩ := r1
        obtain ⟨x, y, rfl, rx, ry⟩ := two_ok ru
        obtain ⟨ps, q, e3, hp, rk⟩ := pairsOf_ok e2 r2
        have ek := key_ok rx e1
        subst ek
        exact ⟨p :: ps, (k, y) :: q, by rw [e3]; rfl, .cons hs hp, ⟨y, q, rfl, ry, rk⟩⟩
      · cases h
    · cases h
theorem cr_blt (hc : X.calm = true) (b : Blt) (hb1 : b ≠ .lenset) (hb2 : b ≠ .str) : CallR X (bltV b) (rBlt ca X.K X.w b) := by
  intro pins s σ H xs us Q I rv h
  obtain ⟨μ, st, ws, R, r, h⟩ := h
  have len1 : ∀ (a : W), ws = [a] → b = .len → (∀ z, a ≠ .str z) → wpAny (model X.prog X.w) X.A (call (bltV b) us) (EP X pins σ Q) X.xe s := by
    intro a e1 e2 hn
    subst e1 e2
    have h : Post X.K X.w ca (oR ((seqOf a st).map fun l => W.int l.length) st) μ H Q := by
      cases a <;> first | exact h | exact absurd rfl (hn _)
    obtain ⟨x, rfl, r1⟩ := one_ok r
    cases e : seqOf a st with
    | none => rw [e] at h; exact h.elim
    | some l =>
      rw [e] at h
      obtain ⟨p, vs, rfl, rvs, hq⟩ := seq_ok R e r1
      refine call_len_seq pins s σ H _ us Q I rv ⟨p, vs, rfl, hq.imp (·.1) (·.1), ?_⟩
      rw [repVs_len rvs]
      exact h.now R rfl
  cases b with
  | lenset => exact absurd rfl hb1
  | str => exact absurd rfl hb2
  | len =>
    match ws, h, r, len1 with
    | [], h, _, _ => exact h.elim
    | a :: _ :: _, h, _, _ => cases a <;> exact h.elim
    | [a], h, r, len1 =>
      by_cases hz : ∃ z, a = .str z
      · obtain ⟨z, rfl⟩ := hz
        simp only [bltW] at h
        obtain ⟨x, rfl, r1⟩ := one_ok r
        obtain rfl : x = .str z := r1
        split at h
        · rename_i hl
          exact call_len_str pins s σ H _ us Q I rv ⟨z, rfl, hl, h.now R rfl⟩
        · exact h.elim
      · exact len1 a rfl rfl fun z e => hz ⟨z, e⟩
  | int =>
    match ws, h, r with
    | [], h, _ => exact h.elim
    | a :: _ :: _, h, _ => cases a <;> exact h.elim
    | [a], h, r =>
      obtain ⟨x, rfl, r1⟩ := one_ok r
      cases a <;> first | exact h.elim | skip
      · rename_i k
        simp only [bltW] at h
        obtain rfl : x = .bl k := r1
        exact call_int1 pins s σ H _ us Q I rv (.inr ⟨k, rfl, h.now R rfl⟩)
      · rename_i i
        simp only [bltW] at h
        obtain rfl : x = .int i := r1
        exact call_int1 pins s σ H _ us Q I rv (.inl ⟨i, rfl, h.now R rfl⟩)
  | abs =>
    match ws, h, r with
    | [], h, _ => exact h.elim
    | a :: _ :: _, h, _ => cases a <;> exact h.elim
    | [a], h, r =>
      obtain ⟨x, rfl, r1⟩ := one_ok r
      cases a <;> first | exact h.elim | skip
      rename_i i
      simp only [bltW] at h
      obtain rfl : x = .int i := r1
      exact call_abs pins s σ H _ us Q I rv ⟨i, rfl, h.now R rfl⟩
  | tuple =>
    match ws, h, r with
    | [], h, _ => exact h.elim
    | a :: _ :: _, h, _ => cases a <;> exact h.elim
    | [a], h, r =>
      obtain ⟨x, rfl, r1⟩ := one_ok r
      simp only [bltW] at h
      cases e : seqOf a st with
      | none => rw [e] at h; exact h.elim
      | some l =>
        rw [e] at h
        obtain ⟨p, vs, rfl, rvs, hq⟩ := seq_ok R e r1
        refine call_tuple_of pins s σ H _ us Q I rv ⟨p, vs, rfl, ?_⟩
        rcases hq with ⟨hq, _⟩ | ⟨hq, ea⟩
        · exact .inl ⟨hq, fun c hc => Post.tup h R hc rvs⟩
        · exact .inr ⟨hq, h.now R ⟨p, vs, rfl, hq, rvs⟩⟩
  | list =>
    match ws, h, r with
    | [], h, _ => exact h.elim
    | a :: _ :: _, h, _ => cases a <;> exact h.elim
    | [a], h, r =>
      obtain ⟨x, rfl, r1⟩ := one_ok r
      simp only [bltW] at h
      cases e : seqOf a st with
      | none => rw [e] at h; exact h.elim
      | some l =>
        rw [e] at h
        obtain ⟨p, vs, rfl, rvs, hq⟩ := seq_ok R e r1
        exact call_list_of pins s σ H _ us Q I rv ⟨p, vs, rfl, hq.imp (·.1) (·.1), fun c hc => Post.new h R hc ⟨_, upd_same, repVs_ext R (ext_new hc (R.outN hc)) rvs⟩⟩
  | dict =>
    match ws, h, r with
    | [], h, _ => exact h.elim
    | a :: _ :: _, h, _ => cases a <;> exact h.elim
    | [a], h, r =>
      obtain ⟨x, rfl, r1⟩ := one_ok r
      cases a <;> first | exact h.elim | skip
      rename_i n
      simp only [bltW] at h
      obtain ⟨p, rfl, hm⟩ := r1
      split at h
      · rename_i kvs e
        obtain ⟨q, hq, rk⟩ := R.obj n p _ hm e
        exact call_dictD pins s σ H _ us Q I rv ⟨p, q, rfl, .inl hq, fun c hc => Post.new h R hc ⟨_, upd_same, repK_ext R (ext_new hc (R.outN hc)) rk⟩⟩
      · rename_i l e
        split at h
        · rename_i kvs ek
          obtain ⟨vs, hq, rvs⟩ := R.lst hm e
          obtain ⟨ps, q, rfl, hp, rk⟩ := pairsOf_ok ek rvs
          exact call_dictP hc pins s σ H _ us Q I rv ⟨p, ps, q, rfl, .inl (.inl hq), hp, fun c hc => Post.new h R hc ⟨_, upd_same, repK_ext R (ext_new hc (R.outN hc)) (repK_merge rk rfl)⟩⟩
        · exact h.elim
      · exact h.elim
  | sorted =>
    match ws, h, r with
    | [], h, _ => exact h.elim
    | a :: _ :: _, h, _ => cases a <;> exact h.elim
    | [a], h, r =>
      obtain ⟨x, rfl, r1⟩ := one_ok r
      cases a <;> first | exact h.elim | skip
      rename_i n
      simp only [bltW] at h
      obtain ⟨p, rfl, hm⟩ := r1
      split at h
      · rename_i kvs e
        obtain ⟨q, hq, rk⟩ := R.obj n p _ hm e
        split at h
        · rename_i ks ek
          split at h
          · rename_i hl
            refine call_sortedD hc pins s σ H _ us Q I rv ⟨p, q, ks, rfl, .inl hq, keysS_ok ek rk, hl, fun ys c hp hs hc => ?_⟩
            rw [sortS_uniq hp hs]
            exact Post.new h R hc ⟨_, upd_same, repVs_strs _⟩
          · exact h.elim
        · split at h
          · rename_i ks ek
            split at h
            · rename_i hl
              refine call_sortedDI hc pins s σ H _ us Q I rv ⟨p, q, ks, rfl, .inl hq, keysI_ok ek rk, hl, fun ys c hp hs hc => ?_⟩
              rw [sortI_uniq hp hs]
              exact Post.new h R hc ⟨_, upd_same, repVs_ints _⟩
            · exact h.elim
          · exact h.elim
      · exact h.elim
  | sum =>
    match ws, h, r with
    | [], h, _ => exact h.elim
    | a :: _ :: _, h, _ => cases a <;> exact h.elim
    | [a], h, r =>
      obtain ⟨x, rfl, r1⟩ := one_ok r
      simp only [bltW] at h
      split at h
      · rename_i l n e
        obtain ⟨ws, e1, e2⟩ := Option.bind_eq_some_iff.mp e
        obtain ⟨p, vs, rfl, rvs, hq⟩ := seq_ok R e1 r1
        have ev := allInts_ok e2 rvs
        subst ev
        rcases hq with ⟨hq, _⟩ | ⟨_, hq⟩
        · exact cr_sum hc pins s σ H _ us Q I rv ⟨p, l, rfl, hq, h.now R rfl⟩
        · cases hq
      · exact h.elim
  | max =>
    match ws, h, r with
    | [], h, _ => exact h.elim
    | a :: b :: _ :: _, h, _ => cases a <;> first | exact h.elim | (cases b <;> exact h.elim)
    | [a, b], h, r =>
      obtain ⟨x, y, rfl, r1, r2⟩ := two_ok r
      cases a with
      | int i =>
        cases b with
        | int j =>
          obtain rfl : x = .int i := r1
          obtain rfl : y = .int j := r2
          exact call_max2 hc pins s σ H _ us Q I rv ⟨i, j, rfl, PostG.now h R rfl⟩
        | _ => exact h.elim
      | _ => exact h.elim
    | [a], h, r =>
      obtain ⟨x, rfl, r1⟩ := one_ok r
      simp only [bltW] at h
      split at h
      · rename_i i l n e
        obtain ⟨ws, e1, e2⟩ := Option.bind_eq_some_iff.mp e
        obtain ⟨p, vs, rfl, rvs, hq⟩ := seq_ok R e1 r1
        have ev := allInts_ok e2 rvs
        subst ev
        rcases hq with ⟨hq, _⟩ | ⟨_, hq⟩
        · refine cr_max hc pins s σ H _ us Q I rv ⟨p, i :: l, rfl, hq, Nat.succ_pos _, fun m h1 h2 => ?_⟩
          obtain ⟨k1, k2⟩ := maxL_ok (i :: l) (by simp)
          have em : m = maxL (i :: l) := Int.le_antisymm (k2 m h1) (h2 _ k1)
          rw [em]
          exact h.now R rfl
        · cases hq
      · exact h.elim
  | min =>
    match ws, h, r with
    | [], h, _ => exact h.elim
    | a :: b :: _ :: _, h, _ => cases a <;> first | exact h.elim | (cases b <;> exact h.elim)
    | [a, b], h, r =>
      obtain ⟨x, y, rfl, r1, r2⟩ := two_ok r
      cases a with
      | int i =>
        cases b with
        | int j =>
          obtain rfl : x = .int i := r1
          obtain rfl : y = .int j := r2
          exact call_min2 hc pins s σ H _ us Q I rv ⟨i, j, rfl, PostG.now h R rfl⟩
        | _ => exact h.elim
      | _ => exact h.elim
    | [a], h, r =>
      obtain ⟨x, rfl, r1⟩ := one_ok r
      simp only [bltW] at h
      split at h
      · rename_i i l n e
        obtain ⟨ws, e1, e2⟩ := Option.bind_eq_some_iff.mp e
        obtain ⟨p, vs, rfl, rvs, hq⟩ := seq_ok R e1 r1
        have ev := allInts_ok e2 rvs
        subst ev
        rcases hq with ⟨hq, _⟩ | ⟨_, hq⟩
        · refine cr_min hc pins s σ H _ us Q I rv ⟨p, i :: l, rfl, hq, Nat.succ_pos _, fun m h1 h2 => ?_⟩
          obtain ⟨k1, k2⟩ := minL_ok (i :: l) (by simp)
          have em : m = minL (i :: l) := Int.le_antisymm (h2 _ k1) (k2 m h1)
          rw [em]
          exact h.now R rfl
        · cases hq
      · exact h.elim
end
end MPS


set_option Elab.async false
set_option linter.all false
set_option maxRecDepth 100000
set_option autoImplicit false
set_option maxHeartbeats 4000000
/-! S6: methods of builtin types, isinstance. -/
namespace MPS
open PySem PySem.Spec PyProof.Rows L2 MP
section
variable {K : PySem.W.Frag} {w : World} {ca : Str → Addr} {μ : List Addr} {H : Hp} {st : Store}
theorem idxF_ok {b : W} {y : V} (rb : RepV K w μ H b y) (fb : flatW b = true) : ∀ {ws : List W} {vs : List V} {j : Nat}, RepVs K w μ H ws vs → ws.all flatW = true → idxF b ws = some j →
    ∃ z, vs[j]? = some z ∧ eqV z y = true ∧ ∀ (m : Nat) (z' : V), m < j → vs[m]? = some z' → eqV z' y = false
  | [], _, _, _, _, h => by simp [idxF] at h
  | a :: q, _, j, r, f, h => by
    obtain ⟨v, vq, rfl, r1, r2⟩ := r
    rw [List.all_cons, Bool.and_eq_true] at f
    have e1 := eqF_ok r1 rb f.1 fb
    unfold idxF at h
    split at h
    · rename_i he
      cases h
      exact ⟨v, rfl, by rw [← e1]; exact he, fun m z' hm => absurd hm (Nat.not_lt_zero _)⟩
    · rename_i he
      obtain ⟨i, hi, rfl⟩ := Option.map_eq_some_iff.mp h
      obtain ⟨z, h1, h2, h3⟩ := idxF_ok rb fb r2 f.2 hi
      refine ⟨z, h1, h2, fun m z' hm hz => ?_⟩
      cases m with
      | zero =>
        cases hz
        rw [← e1]; exact Bool.eq_false_iff.mpr he
      | succ m => exact h3 m z' (Nat.lt_of_succ_lt_succ hm) hz
theorem idx8_ok (x : Str) : ∀ {l : List Str} {j : Nat}, idx8 x l = some j → l[j]? = some x ∧ ∀ m, m < j → l[m]? ≠ some x
  | [], _, h => by simp [idx8] at h
  | y :: r, j, h => by
    unfold idx8 at h
    split at h
    · rename_i he
      cases h
      exact ⟨by rw [he]; rfl, fun m hm => absurd hm (Nat.not_lt_zero _)⟩
    · rename_i he
      obtain ⟨i, hi, rfl⟩ := Option.map_eq_some_iff.mp h
      obtain ⟨h1, h2⟩ := idx8_ok x hi
      refine ⟨h1, fun m hm => ?_⟩
      cases m with
      | zero => simpa using he
      | succ m => exact h2 m (Nat.lt_of_succ_lt_succ hm)
theorem idx8_rot {x : Str} {j : Nat} (h : idx8 x rot8s = some j) : Builtin.Str.occurrences rot8 x 0 rot8.length 1 = [j] := by
  obtain ⟨h1, _⟩ := idx8_ok x h
  have hj : j < 8 := by
    have := (List.getElem?_eq_some_iff.mp h1).1
    exact this
  have all : ∀ i : Fin 8, ∀ y, rot8s[i.val]? = some y → Builtin.Str.occurrences rot8 y 0 rot8.length 1 = [i.val] := by
    intro i y hy
    have : rot8s[i.val]? = some (rot8s.getD i.val "") := by
      rw [List.getD_eq_getElem?_getD, hy]; rfl
    rw [this] at hy
    cases hy
    revert i
    decide +kernel
  exact all ⟨j, hj⟩ x h1
theorem last_get {α : Type} (l : List α) : l[l.length - 1]? = l.getLast? := List.getLast?_eq_getElem?.symm
theorem repVs_dropLast {ws : List W} {vs : List V} (h : RepVs K w μ H ws vs) : RepVs K w μ H ws.dropLast vs.dropLast := by
  rw [List.dropLast_eq_take, List.dropLast_eq_take, repVs_len h]
  exact repVs_take _ h
theorem Post.write {Q : VK} {r : Nat} {a : Addr} {u : HO} {v : SO} (h : Post K w ca (.ok .non (st.set r v)) μ H Q) (R : Rep K w ca μ H st) (hm : μ[r]? = some a) (ro : RepO K w ca μ (upd H a u) a v) : Q .non (upd H a u) :=
  h μ .non _ (ext_write (o := u) (List.mem_of_getElem? hm)) (R.write hm ro) rfl
end
def bmtN : Bmt → Str
  | .append => "append" | .pop => "pop" | .popAt => "pop" | .extend => "extend" | .clear => "clear" | .index => "index" | .count => "count" | .update => "update" | .get => "get" | .join => "join" | .split => "split"
section
variable {X : Cx} (ca : Str → Addr)
def rBmt (K : PySem.W.Frag) (w : World) (m : Bmt) (kd : Nat) : V → List V → Hp → VK → Prop := fun x xs H Q => ∃ μ st a ws, Rep K w ca μ H st ∧ RepV K w μ H a x ∧ kindW a st = kd ∧ RepVs K w μ H ws xs ∧ Post K w ca (bmtW m a ws st) μ H Q
theorem kind1 {a : W} {st : Store} (h : kindW a st = 1) : ∃ n ws, a = .ref n ∧ st[n]? = some (.lst ws) := by
  unfold kindW at h
  split at h
  · split at h
    · rename_i l e; exact ⟨_, l, rfl, e⟩
    · cases h
    · cases h
  · cases h
  · cases h
theorem kind2 {a : W} {st : Store} (h : kindW a st = 2) : ∃ n kvs, a = .ref n ∧ st[n]? = some (.dic kvs) := by
  unfold kindW at h
  split at h
  · split at h
    · cases h
    · rename_i l e; exact ⟨_, l, rfl, e⟩
    · cases h
  · cases h
  · cases h
theorem kind3 {a : W} {st : Store} (h : kindW a st = 3) : ∃ z, a = .str z := by
  unfold kindW at h
  split at h
  · split at h <;> cases h
  · exact ⟨_, rfl⟩
  · cases h
theorem mt_append_ok : MtR X "list.append" (rBmt ca X.K X.w .append 1) := by
  intro pins s σ H x xs v us Q I rx rs h
  obtain ⟨μ, st, a, ws, R, ra, hk, rw', h⟩ := h
  obtain ⟨n, l, rfl, e⟩ := kind1 hk
  simp only [bmtW, e] at h
  obtain ⟨p, rfl, hm⟩ := ra
  obtain ⟨vs, hq, rv⟩ := R.lst hm e
  match ws, h, rw' with
  | [], h, _ => exact h.elim
  | _ :: _ :: _, h, _ => exact h.elim
  | [b], h, rw' =>
    obtain ⟨y, rfl, ry⟩ := one_ok rw'
    simp only at h
    split at h
    · rename_i hl
      exact mt_append pins s σ H _ _ v us Q I rx rs ⟨p, vs, y, rfl, rfl, hq, by rw [repVs_len rv]; exact hl, Post.write h R hm ⟨_, upd_same, repVs_ext R (ext_write (List.mem_of_getElem? hm) (o := .lst vs)) (repVs_app rv ⟨y, [], rfl, ry, rfl⟩)⟩⟩
    · exact h.elim
theorem mt_pop_ok : MtR X "list.pop" (rBmt ca X.K X.w .pop 1) := by
  intro pins s σ H x xs v us Q I rx rs h
  obtain ⟨μ, st, a, ws, R, ra, hk, rw', h⟩ := h
  obtain ⟨n, l, rfl, e⟩ := kind1 hk
  simp only [bmtW, e] at h
  obtain ⟨p, rfl, hm⟩ := ra
  obtain ⟨vs, hq, rv⟩ := R.lst hm e
  match ws, h, rw' with
  | _ :: _, h, _ => exact h.elim
  | [], h, rw' =>
    obtain rfl : xs = [] := rw'
    simp only at h
    split at h
    · rename_i y hy
      rw [← last_get] at hy
      obtain ⟨z, hz, rz⟩ := repVs_get rv hy
      have R2 := R.write (u := .lst vs.dropLast) (v := .lst l.dropLast) hm ⟨_, upd_same, repVs_ext R (ext_write (List.mem_of_getElem? hm) (o := .lst vs)) (repVs_dropLast rv)⟩
      have ex := ext_write (o := .lst vs) (u := .lst vs.dropLast) (H := H) (List.mem_of_getElem? hm)
      exact mt_pop pins s σ H _ _ v us Q I rx rs ⟨p, vs, z, rfl, rfl, hq, by rw [repVs_len rv]; exact hz, h μ z _ ex R2 (repV_ext R ex rz)⟩
    · exact h.elim
theorem mt_popAt_ok : MtR X "list.pop" (rBmt ca X.K X.w .popAt 1) := by
  intro pins s σ H x xs v us Q I rx rs h
  obtain ⟨μ, st, a, ws, R, ra, hk, rw', h⟩ := h
  obtain ⟨n, l, rfl, e⟩ := kind1 hk
  obtain ⟨p, rfl, hm⟩ := ra
  obtain ⟨vs, hq, rv⟩ := R.lst hm e
  match ws, h, rw' with
  | [], h, _ => simp only [bmtW, e] at h; exact h.elim
  | b :: _ :: _, h, _ => cases b <;> simp only [bmtW, e] at h <;> exact h.elim
  | [b], h, rw' =>
    obtain ⟨y, rfl, ry⟩ := one_ok rw'
    cases b <;> simp only [bmtW, e] at h <;> first | exact h.elim | skip
    rename_i i
    obtain rfl : y = .int i := ry
    split at h
    · rename_i hi
      subst hi
      match l, h, rv, e with
      | [], h, _, _ => exact h.elim
      | c :: q, h, rv, e =>
        simp only at h
        obtain ⟨z, vq, rfl, r1, r2⟩ := rv
        have ex := ext_write (o := .lst (z :: vq)) (u := .lst vq) (H := H) (List.mem_of_getElem? hm)
        have R2 := R.write (u := .lst vq) (v := .lst q) hm ⟨_, upd_same, repVs_ext R ex r2⟩
        exact mt_popAt pins s σ H _ _ v us Q I rx rs ⟨p, z :: vq, 0, 0, z, rfl, rfl, hq, by decide, by decide, by simp [seqIndex?], rfl, h μ z _ ex R2 (repV_ext R ex r1)⟩
    · exact h.elim
theorem mt_clear_ok : MtR X "list.clear" (rBmt ca X.K X.w .clear 1) := by
  intro pins s σ H x xs v us Q I rx rs h
  obtain ⟨μ, st, a, ws, R, ra, hk, rw', h⟩ := h
  obtain ⟨n, l, rfl, e⟩ := kind1 hk
  simp only [bmtW, e] at h
  obtain ⟨p, rfl, hm⟩ := ra
  obtain ⟨vs, hq, rv⟩ := R.lst hm e
  match ws, h, rw' with
  | _ :: _, h, _ => exact h.elim
  | [], h, rw' =>
    obtain rfl : xs = [] := rw'
    exact mt_clear pins s σ H _ _ v us Q I rx rs ⟨p, vs, rfl, rfl, hq, Post.write h R hm ⟨[], upd_same, rfl⟩⟩
/-- list.extend by any list or tuple -/
theorem mt_extend_ok : MtR X "list.extend" (rBmt ca X.K X.w .extend 1) := by
  intro pins s σ H x xs v us Q I rx rs h
  obtain ⟨μ, st, a, ws, R, ra, hk, rw', h⟩ := h
  obtain ⟨n, l, rfl, e⟩ := kind1 hk
  simp only [bmtW, e] at h
  obtain ⟨p, rfl, hm⟩ := ra
  obtain ⟨vs, hq, rv⟩ := R.lst hm e
  match ws, h, rw' with
  | [], h, _ => exact h.elim
  | b :: _ :: _, h, _ => cases b <;> exact h.elim
  | [b], h, rw' =>
    obtain ⟨y, rfl, ry⟩ := one_ok rw'
    cases b <;> simp only at h <;> first | exact h.elim | skip
    rename_i m
    split at h
    · rename_i q e2
      split at h
      · rename_i hl
        obtain ⟨p2, rfl, hm2⟩ := ry
        obtain ⟨us2, hq2, rv2⟩ := R.lst hm2 e2
        exact mt_extend pins s σ H _ _ v us Q I rx rs ⟨p, p2, vs, us2, rfl, rfl, hq, hq2, by rw [repVs_len rv, repVs_len rv2]; exact hl, Post.write h R hm ⟨_, upd_same, repVs_ext R (ext_write (List.mem_of_getElem? hm) (o := .lst vs)) (repVs_app rv rv2)⟩⟩
      · exact h.elim
    · exact h.elim
theorem mt_lindex_ok : MtR X "list.index" (rBmt ca X.K X.w .index 1) := by
  intro pins s σ H x xs v us Q I rx rs h
  obtain ⟨μ, st, a, ws, R, ra, hk, rw', h⟩ := h
  obtain ⟨n, l, rfl, e⟩ := kind1 hk
  simp only [bmtW, e] at h
  obtain ⟨p, rfl, hm⟩ := ra
  obtain ⟨vs, hq, rv⟩ := R.lst hm e
  match ws, h, rw' with
  | [], h, _ => exact h.elim
  | _ :: _ :: _, h, _ => exact h.elim
  | [b], h, rw' =>
    obtain ⟨y, rfl, ry⟩ := one_ok rw'
    simp only at h
    split at h
    · rename_i hf
      rw [Bool.and_eq_true] at hf
      cases ei : idxF b l with
      | none => rw [ei] at h; exact h.elim
      | some j =>
        rw [ei] at h
        obtain ⟨z, h1, h2, h3⟩ := idxF_ok ry hf.1 rv hf.2 ei
        exact mt_index pins s σ H _ _ v us Q I rx rs ⟨p, vs, y, j, z, rfl, rfl, .inl (.inl hq), flat_ok ry hf.1, flats_ok rv hf.2, h1, h2, h3, h.now R rfl⟩
    · exact h.elim
theorem mt_get_ok (hu : X.A.units + 1 < cLine) : MtR X "dict.get" (rBmt ca X.K X.w .get 2) := by
  intro pins s σ H x xs v us Q I rx rs h
  obtain ⟨μ, st, a, ws, R, ra, hk, rw', h⟩ := h
  obtain ⟨n, kvs, rfl, e⟩ := kind2 hk
  simp only [bmtW, e] at h
  obtain ⟨p, rfl, hm⟩ := ra
  obtain ⟨q, hq, rk⟩ := R.obj n p _ hm e
  cases (show v = Value.ref p from rx)
  have gt : ∀ (k : MP.Key) (d : W) (dv : V), RepV X.K X.w μ H d dv → RepV X.K X.w μ H ((kget kvs k).getD d) ((valV q k).getD dv) := by
    intro k d dv rd
    cases ek : kget kvs k with
    | none => rw [repK_none rk ek]; exact rd
    | some z =>
      obtain ⟨z', e1, r1⟩ := repK_get rk ek
      rw [e1]; exact r1
  match ws, h, rw' with
  | [], h, _ => exact h.elim
  | _ :: _ :: _ :: _, h, _ => exact h.elim
  | [b], h, rw' =>
    obtain ⟨y, rfl, ry⟩ := one_ok rw'
    simp only at h
    split at h
    · rename_i k ek
      have := key_ok ry ek
      subst this
      obtain ⟨u, rfl, ru⟩ := rs.one
      exact d_get1 hu I (DGet.k hq) ru fun w' s' I' r' => ⟨_, H, I', r', h.now R (gt k .non .non rfl)⟩
    · exact h.elim
  | [b, d], h, rw' =>
    obtain ⟨y, z, rfl, ry, rz⟩ := two_ok rw'
    simp only at h
    split at h
    · rename_i k ek
      have := key_ok ry ek
      subst this
      obtain ⟨u, t, rfl, ru, rt⟩ := rs.two
      exact d_get2 hu I (DGet.k hq) ru rt fun w' s' I' r' => ⟨_, H, I', r', h.now R (gt k d z rz)⟩
    · exact h.elim
/-- d.update(e), two dicts of ours that are not the same -/
theorem mt_update_ok : MtR X "dict.update" (rBmt ca X.K X.w .update 2) := by
  intro pins s σ H x xs v us Q I rx rs h
  obtain ⟨μ, st, a, ws, R, ra, hk, rw', h⟩ := h
  obtain ⟨n, kvs, rfl, e⟩ := kind2 hk
  simp only [bmtW, e] at h
  obtain ⟨p, rfl, hm⟩ := ra
  obtain ⟨q, hq, rk⟩ := R.obj n p _ hm e
  cases (show v = Value.ref p from rx)
  match ws, h, rw' with
  | [], h, _ => exact h.elim
  | b :: _ :: _, h, _ => cases b <;> exact h.elim
  | [b], h, rw' =>
    obtain ⟨y, rfl, ry⟩ := one_ok rw'
    cases b <;> simp only at h <;> first | exact h.elim | skip
    rename_i m
    obtain ⟨p2, rfl, hm2⟩ := ry
    split at h
    · rename_i more e2
      split at h
      · rename_i hl
        obtain ⟨q2, hq2, rk2⟩ := R.obj m p2 _ hm2 e2
        obtain ⟨u, rfl, ru⟩ := rs.one
        cases (show u = Value.ref p2 from ru)
        obtain ⟨z1, hd1, vs1, rel1, dd1⟩ := dk_of I.hok hq
        obtain ⟨z2, hd2, vs2, rel2, dd2⟩ := dk_of I.hok hq2
        have hne : p ≠ p2 := fun z => hl.1 (nodup_at R.nd hm (by rw [z]; exact hm2))
        have hsz : q.length + q2.length ≤ sizeLine := by rw [repK_len rk, repK_len rk2]; exact hl.2
        refine call_meetsIn PySem.F.slot_dict_update dd1.typeIs PySem.F.entry_dict_update (PySem.F.args_dict_update_2 _ _) (meets_dict_update (mixKind X.prog X.w) p p2 hne hd2)
          ⟨vs1, vs2, dd1, dd2, (by rw [← rel1.length, ← rel2.length]; exact hsz), fun h' hmm _ hs => ?_⟩
        obtain ⟨o', es, ep, ho', _⟩ := id hmm
        have hlen : (mergeK q q2).length ≤ sizeLine := Nat.le_trans (length_mergeK q2 q) hsz
        refine ⟨.non, _, d_write (t' := s.toks) I (by rw [hq]; trivial) hs ⟨o', ho'⟩ (dk_new hlen hd1 (rel2.merge rel1) hmm), rfl, Post.write h R hm ⟨_, upd_same, repK_ext R (ext_write (List.mem_of_getElem? hm) (o := .dK q)) (repK_merge rk2 rk)⟩⟩
      · exact h.elim
    · exact h.elim
theorem mt_sindex_ok : MtR X "str.index" (rBmt ca X.K X.w .index 3) := by
  intro pins s σ H x xs v us Q I rx rs h
  obtain ⟨μ, st, a, ws, R, ra, hk, rw', h⟩ := h
  obtain ⟨z, rfl⟩ := kind3 hk
  match ws, h, rw' with
  | [], h, _ => exact h.elim
  | b :: _ :: _, h, _ => cases b <;> exact h.elim
  | [b], h, rw' =>
    obtain ⟨y, rfl, ry⟩ := one_ok rw'
    cases b <;> simp only [bmtW] at h <;> first | exact h.elim | skip
    rename_i t
    split at h
    · rename_i hz
      cases ei : idx8 t rot8s with
      | none => rw [ei] at h; exact h.elim
      | some j =>
        rw [ei] at h
        exact mt_sindex pins s σ H x _ v us Q I rx rs ⟨z, t, j, [], ra, by rw [show y = _ from ry], by rw [hz]; exact idx8_rot ei, h.now R rfl⟩
    · exact h.elim
/-! ### isinstance -/
def clV : Cl → V
  | .tuple => .ty "tuple" | .list => .ty "list" | .int => .ty "int" | .str => .ty "str" | .bool => .ty "bool" | .own _ => .non
theorem call_isiW (c : Cl) (hc : ∀ n, c ≠ .own n) : CallR X (.builtin "isinstance") (fun xs H Q => ∃ μ st a x r, Rep X.K X.w ca μ H st ∧ RepV X.K X.w μ H a x ∧ xs = [x, clV c] ∧ isiW a c st = some r ∧ Q (.bl r) H) := by
  intro pins s σ H xs us Q I rs h
  obtain ⟨μ, st, a, x, r, R, ra, rfl, hi, q⟩ := h
  have key : ∀ (T cn : String) (hk : kitB T cn = some r), clV c = .ty cn → TyX X.K H x (.type T) → wpAny (model X.prog X.w) X.A (call (.builtin "isinstance") us) (EP X pins σ Q) X.xe s := by
    intro T cn hk e ty
    exact call_isi pins s σ H _ us Q I rs ⟨x, clV c, .type T, .type cn, r, rfl, by rw [e]; exact .ty cn, ty, kit_ty hk, q⟩
  have tupT : ∀ p vs, SqT X.K H p vs → TyX X.K H (.ref p) (.type "tuple") := by
    intro p vs hs
    rcases hs with (hs | ⟨o, hs⟩) | ⟨o, its, m, e, c', _⟩
    · exact .base (.tup hs)
    · exact .fTuple hs
    · exact .kTuple e c'
  have lstT : ∀ p vs, SqL X.K H p vs → TyX X.K H (.ref p) (.type "list") := by
    intro p vs hs
    rcases hs with (hs | ⟨o, hs⟩) | ⟨o, its, m, e, c', _⟩
    · exact .base (.lst hs)
    · exact .base (.frz hs)
    · exact .kList e c'
  cases a with
  | non =>
    obtain rfl := (show x = _ from ra)
    cases c <;> simp only [isiW] at hi <;> first | exact absurd rfl (hc _) | (cases hi; exact key "NoneType" _ (by decide +kernel) rfl (.base .non))
  | bl b =>
    obtain rfl := (show x = _ from ra)
    cases c <;> simp only [isiW] at hi <;> first | exact absurd rfl (hc _) | (cases hi; exact key "bool" _ (by decide +kernel) rfl (.base (.bl _)))
  | int b =>
    obtain rfl := (show x = _ from ra)
    cases c <;> simp only [isiW] at hi <;> first | exact absurd rfl (hc _) | (cases hi; exact key "int" _ (by decide +kernel) rfl (.base (.int _)))
  | str b =>
    obtain rfl := (show x = _ from ra)
    cases c <;> simp only [isiW] at hi <;> first | exact absurd rfl (hc _) | (cases hi; exact key "str" _ (by decide +kernel) rfl (.base (.str _)))
  | tup b =>
    obtain ⟨p, vs, rfl, hs, _⟩ := ra
    cases c <;> simp only [isiW] at hi <;> first | exact absurd rfl (hc _) | (cases hi; exact key "tuple" _ (by decide +kernel) rfl (tupT p vs hs))
  | fro b =>
    obtain ⟨p, vs, rfl, hs, _⟩ := ra
    cases c <;> simp only [isiW] at hi <;> first | exact absurd rfl (hc _) | (cases hi; exact key "list" _ (by decide +kernel) rfl (lstT p vs hs.sq))
  | gd b => simp only [isiW] at hi; cases hi
  | ref n =>
    obtain ⟨p, rfl, hm⟩ := ra
    simp only [isiW] at hi
    split at hi
    · rename_i l e
      obtain ⟨vs, hq, rv⟩ := R.lst hm e
      cases c <;> simp only at hi <;> first | exact absurd rfl (hc _) | (cases hi; exact key "list" _ (by decide +kernel) rfl (lstT p vs (.inl (.inl hq))))
    · cases hi
end
end MPS


set_option Elab.async false
set_option linter.all false
set_option maxRecDepth 100000
set_option autoImplicit false
set_option maxHeartbeats 4000000
/-! S7: expressions, one rule for each form. -/
namespace MPS
open PySem PySem.Spec PyProof.Rows L2 MP
theorem _root_.L2.PE.imp {X : Cx} {e : PySem.Expr} {t t' : TE} (h : PE X e t) (k : ∀ σ H Q, t' σ H Q → t σ H Q) : PE X e t' := ⟨fun pins s σ H Q I q => h.run pins s σ H Q I (k σ H Q q)⟩
theorem _root_.L2.PT.imp {X : Cx} {e : PySem.Expr} {t t' : TT} (h : PT X e t) (k : ∀ σ H Q, t' σ H Q → t σ H Q) : PT X e t' := ⟨fun pins s σ H Q I q => h.run pins s σ H Q I (k σ H Q q)⟩
theorem _root_.L2.PW.imp {X : Cx} {e : PySem.Expr} {t t' : TT} (h : PW X e t) (k : ∀ σ H Q, t' σ H Q → t σ H Q) : PW X e t' := ⟨fun wh pins s σ H Q I q => h.run wh pins s σ H Q I (k σ H Q q)⟩
theorem _root_.L2.PA.imp {X : Cx} {e : List PySem.Expr} {t t' : TA} (h : PA X e t) (k : ∀ σ H Q, t' σ H Q → t σ H Q) : PA X e t' := ⟨fun p pins s σ H Q I q => h.run p pins s σ H Q I (k σ H Q q)⟩
theorem _root_.L2.PS.imp {X : Cx} {e : PySem.Stmt} {t t' : TS} (h : PS X e t) (k : ∀ D σ H, t' D σ H → t D σ H) : PS X e t' := ⟨fun pins s σ H D I q => h.run pins s σ H D I (k D σ H q)⟩
theorem _root_.L2.PSs.imp {X : Cx} {e : List PySem.Stmt} {t t' : TS} (h : PSs X e t) (k : ∀ D σ H, t' D σ H → t D σ H) : PSs X e t' := ⟨fun pins s σ H D I q => h.run pins s σ H D I (k D σ H q)⟩
theorem _root_.L2.PG.imp {X : Cx} {e : PySem.Expr} {t t' : TG} (h : PG X e t) (k : ∀ v σ H Q, t' v σ H Q → t v σ H Q) : PG X e t' := ⟨fun pins s σ H v u Q I r q => h.run pins s σ H v u Q I r (k v σ H Q q)⟩
theorem _root_.L2.PGs.imp {X : Cx} {e : List PySem.Expr} {t t' : TGs} (h : PGs X e t) (k : ∀ v σ H Q, t' v σ H Q → t v σ H Q) : PGs X e t' := ⟨fun pins s σ H v u Q I r q => h.run pins s σ H v u Q I r (k v σ H Q q)⟩
theorem pe_no {X : Cx} {e : PySem.Expr} {t : TE} (h : ∀ σ H Q, ¬ t σ H Q) : PE X e t := ⟨fun pins s σ H Q I q => (h σ H Q q).elim⟩
section
variable {K : PySem.W.Frag} {w : World} {ca : Str → Addr} {μ μ0 μ1 : List Addr} {H H0 H1 : Hp} {st : Store} {α β γ δ : Type} {rep : List Addr → Hp → α → β → Prop} {rep2 : List Addr → Hp → γ → δ → Prop}
/-- .. what is wanted counts from further back -/
theorem PostG.bind0 {r : R α} {f : α → Store → R γ} {Q : δ → Hp → Prop} {Q' : β → Hp → Prop} (h : PostG K w ca rep2 (r.bind f) μ0 H0 Q) (e0 : Ext μ0 H0 μ H)
    (k : ∀ μ1 s1 a v H1, Ext μ H μ1 H1 → Ext μ0 H0 μ1 H1 → Rep K w ca μ1 H1 s1 → rep μ1 H1 a v → PostG K w ca rep2 (f a s1) μ0 H0 Q → Q' v H1) : PostG K w ca rep r μ H Q' := by
  cases r with
  | ok a s => exact fun μ1 v H1 e R r => k μ1 s a v H1 e (e0.trans e) R r h
  | exc x s => exact h
  | bad => exact h
theorem no_bind {r : R α} {f : α → Store → R γ} {Q : δ → Hp → Prop} (hf : ∀ a s, f a s = .bad) (h : PostG K w ca rep2 (r.bind f) μ H Q) : False := by
  cases r with
  | ok a s =>
    have h : PostG K w ca rep2 (f a s) μ H Q := h
    rw [hf] at h; exact h
  | exc x s => exact h
  | bad => exact h
end
/-! ### readings -/
section
variable (K : PySem.W.Frag) (w : World) (ca : Str → Addr) (P : Prog) (call : MP.Call)
def tE (x : Ex) : TE := fun σ H Q => ∃ μ st ρ, Rep K w ca μ H st ∧ RepE K w μ H ρ σ ∧ Post K w ca (evE P call x ρ st) μ H Q
def tA (xs : Exs) : TA := fun σ H Q => ∃ μ st ρ, Rep K w ca μ H st ∧ RepE K w μ H ρ σ ∧ PostA K w ca (evEs P call xs ρ st) μ H Q
abbrev PostV {α : Type} : R α → List Addr → Hp → (α → Hp → Prop) → Prop := PostG K w ca fun _ _ a b => a = b
def tT (x : Ex) : TT := fun σ H Q => ∃ μ st ρ, Rep K w ca μ H st ∧ RepE K w μ H ρ σ ∧ PostV K w ca ((evE P call x ρ st).test fun b st => .ok b st) μ H Q
def tOp' (x : Op) : TO := fun σ H Q => ∃ μ st ρ, Rep K w ca μ H st ∧ RepE K w μ H ρ σ ∧ PostV K w ca (evO P call x ρ st) μ H Q
def tCo (x : Op) : TT := fun σ H Q => ∃ μ st ρ, Rep K w ca μ H st ∧ RepE K w μ H ρ σ ∧ PostV K w ca (evC P call x ρ st) μ H Q
/-- slots outside ix stand -/
structure Same (ix : List Nat) (σ σ' : L2.St) : Prop where
  len : σ'.length = σ.length
  out : ∀ j, j ∉ ix → σ'[j]? = σ[j]?
def tGt (t : Tg) : TG := fun v σ H Q => ∃ μ st ρ a, Rep K w ca μ H st ∧ RepE K w μ H ρ σ ∧ RepV K w μ H a v ∧ PostG K w ca (fun μ' H' ρ' σ' => RepE K w μ' H' ρ' σ' ∧ Same (tgIx t) σ σ') (evG P call t a ρ st) μ H Q
def tGts (t : Tgs) : TGs := fun vs σ H Q => ∃ μ st ρ ws, Rep K w ca μ H st ∧ RepE K w μ H ρ σ ∧ RepVs K w μ H ws vs ∧ PostG K w ca (fun μ' H' ρ' σ' => RepE K w μ' H' ρ' σ' ∧ Same (tgsIx t) σ σ') (evGs P call t ws ρ st) μ H Q
/-- an iterator gives just these items -/
def JOk (k : Walk) (μ : List Addr) (H : Hp) (J : L2.It) : Prop := ∀ (i : Nat) μ' H' st', Ext μ H μ' H' → Rep K w ca μ' H' st' → k.holds st' = true →
  (k.items.length ≤ i → J.stop i H') ∧ ∀ a, k.items[i]? = some a → J.go i H' ∧ ∀ x H'', J.yld i H' x H'' → Ext μ' H' μ' H'' ∧ Rep K w ca μ' H'' st' ∧ RepV K w μ' H'' a x
def tIt (it : MP.It) : TI := fun σ H Q => ∃ μ st ρ, Rep K w ca μ H st ∧ RepE K w μ H ρ σ ∧ PostG K w ca (fun μ H k J => JOk K w ca k μ H J) (evI P call it ρ st) μ H Q
end
theorem Same.refl {ix : List Nat} {σ : L2.St} : Same ix σ σ := ⟨rfl, fun _ _ => rfl⟩
theorem Same.trans {a b c : List Nat} {σ σ1 σ2 : L2.St} (h : Same a σ σ1) (k : Same b σ1 σ2) (ha : ∀ i ∈ a, i ∈ c) (hb : ∀ i ∈ b, i ∈ c) : Same c σ σ2 :=
  ⟨k.len.trans h.len, fun j hj => (k.out j fun z => hj (hb j z)).trans (h.out j fun z => hj (ha j z))⟩
theorem Same.weak {a b : List Nat} {σ σ1 : L2.St} (h : Same a σ σ1) (ha : ∀ i ∈ a, i ∈ b) : Same b σ σ1 := ⟨h.len, fun j hj => h.out j fun z => hj (ha j z)⟩
theorem wipe_at (σ : L2.St) (j : Nat) : ∀ vs : List Nat, (L2.wipe σ vs)[j]? = if j ∈ vs then (if j < σ.length then some none else none) else σ[j]?
  | [] => by simp [L2.wipe]
  | v :: vs => by
    unfold L2.wipe
    rw [List.getElem?_set]
    by_cases hv : v = j
    · subst hv
      rw [if_pos rfl, if_pos (List.mem_cons_self)]
      rw [L2.wipe_length]
    · rw [if_neg hv, wipe_at σ j vs]
      have : (j ∈ v :: vs) ↔ j ∈ vs := by simp [Ne.symm hv]
      simp only [this]
theorem Same.wipe {ix vs : List Nat} {σ σ' : L2.St} (h : Same ix σ σ') (hx : ∀ i ∈ ix, i ∈ vs) : L2.wipe σ' vs = L2.wipe σ vs := by
  apply List.ext_getElem?
  intro j
  rw [wipe_at, wipe_at, h.len]
  by_cases hj : j ∈ vs
  · rw [if_pos hj, if_pos hj]
  · rw [if_neg hj, if_neg hj]
    exact h.out j fun z => hj (hx j z)
section
variable {X : Cx} {ca : Str → Addr} {P : Prog} {call : MP.Call} {a b c : PySem.Expr} {A B C : Ex} {pos : Pos}
abbrev EX (X : Cx) (ca : Str → Addr) (P : Prog) (call : MP.Call) (a : PySem.Expr) (A : Ex) : Prop := PE X a (tE X.K X.w ca P call A)
abbrev TX (X : Cx) (ca : Str → Addr) (P : Prog) (call : MP.Call) (a : PySem.Expr) (A : Ex) : Prop := PT X a (tT X.K X.w ca P call A)
abbrev AX (X : Cx) (ca : Str → Addr) (P : Prog) (call : MP.Call) (a : List PySem.Expr) (A : Exs) : Prop := PA X a (tA X.K X.w ca P call A)
theorem e_bad : EX X ca P call a bdE := pe_no fun σ H Q ⟨μ, st, ρ, _, _, h⟩ => h
theorem t_bad : TX X ca P call a bdE := ⟨fun pins s σ H Q I ⟨μ, st, ρ, _, _, h⟩ => h.elim⟩
theorem e_cst {v : V} {x : W} (hr : ∀ μ H, RepV X.K X.w μ H x v) (h : PE X a (tC v)) : EX X ca P call a (.cst x) :=
  h.imp fun σ H Q ⟨μ, st, ρ, R, E, h⟩ => PostG.now h R (hr μ H)
theorem e_var {i : Nat} {x : Str} (hN : X.N[i]? = some x) (hv : Vis X.env.scope x) (hd : (x == ("__debug__" : Str)) = false) (hcd : (x == ("__classdict__" : Str)) = false) : EX X ca P call (.Name x pos) (.var i) :=
  (pe_var hN hv hd hcd).imp fun σ H Q ⟨μ, st, ρ, R, E, h⟩ => by
    simp only [evE] at h
    split at h
    · rename_i y e
      obtain ⟨v, e1, r⟩ := E.at_ i y e
      exact ⟨v, e1, h.now R r⟩
    · exact h.elim
theorem e_glo {x : Str} {u : Value} {v : V} {y : W} (hg : Gl X x) (hm : X.mg x = some u) (r : RelV v u) (hr : ∀ μ H, RepV X.K X.w μ H y v) (hl : lookS P.glos x = some y) (hd : (x == ("__debug__" : Str)) = false) : EX X ca P call (.Name x pos) (.glo x) :=
  (pe_glob hg hm r hd).imp fun σ H Q ⟨μ, st, ρ, R, E, h⟩ => by
    simp only [evE, hl] at h
    exact PostG.now h R (hr μ H)
theorem e_gloN {x : Str} (hl : lookS P.glos x = none) : EX X ca P call a (.glo x) := pe_no fun σ H Q ⟨μ, st, ρ, _, _, h⟩ => by
  simp only [evE, hl] at h
  exact h
theorem e_tup {es : List PySem.Expr} {As : Exs} {k : Nat} (h : AX X ca P call es As) : EX X ca P call (.Tuple es k pos) (.tup As) :=
  (pe_tup h).imp fun σ H Q ⟨μ, st, ρ, R, E, h⟩ => ⟨μ, st, ρ, R, E, PostG.bind h fun μ1 s1 ws vs H1 e R1 r h1 => by
    split at h1
    · rename_i hl
      exact ⟨by rw [repVs_len r]; exact hl, fun p hp => Post.tup h1 R1 hp r⟩
    · exact h1.elim⟩
theorem e_lst {es : List PySem.Expr} {As : Exs} (h : AX X ca P call es As) : EX X ca P call (.List es pos) (.lst As) :=
  (pe_lst h).imp fun σ H Q ⟨μ, st, ρ, R, E, h⟩ => ⟨μ, st, ρ, R, E, PostG.bind h fun μ1 s1 ws vs H1 e R1 r h1 => by
    split at h1
    · rename_i hl
      exact ⟨by rw [repVs_len r]; exact hl, fun p hp => Post.new h1 R1 hp ⟨_, upd_same, repVs_ext R1 (ext_new hp (R1.outN hp)) r⟩⟩
    · exact h1.elim⟩
/-- two values, one after another -/
theorem two_b {r : V → V → Hp → VK → Prop} {f : W → W → Store → R W} (hr : ∀ x y H Q, (∃ μ st a b, Rep X.K X.w ca μ H st ∧ RepV X.K X.w μ H a x ∧ RepV X.K X.w μ H b y ∧ Post X.K X.w ca (f a b st) μ H Q) → r x y H Q)
    {σ : L2.St} {H : Hp} {Q : VK} {μ : List Addr} {st : Store} {ρ : MP.Env} (R : Rep X.K X.w ca μ H st) (E : RepE X.K X.w μ H ρ σ)
    (h : Post X.K X.w ca ((evE P call A ρ st).bind fun x st => (evE P call B ρ st).bind fun y st => f x y st) μ H Q) : tOp r (tE X.K X.w ca P call A) (tE X.K X.w ca P call B) σ H Q :=
  ⟨μ, st, ρ, R, E, PostG.bind h fun μ1 s1 x v H1 e R1 r1 h1 => ⟨μ1, s1, ρ, R1, E.ext R e, PostG.bind h1 fun μ2 s2 y u H2 e2 R2 r2 h2 => hr v u H2 Q ⟨μ2, s2, x, y, R2, repV_ext R1 e2 r1, r2, h2⟩⟩⟩
theorem e_bin {o : BOp} (ha : EX X ca P call a A) (hb : EX X ca P call b B) : EX X ca P call (.BinOp a (bopO o) b pos) (.bin o A B) :=
  (pe_op (or_bop ca o) ha hb).imp fun σ H Q ⟨μ, st, ρ, R, E, h⟩ => two_b (fun x y H Q z => z) R E h
theorem e_neg (ha : EX X ca P call a A) : EX X ca P call (.UnaryOp .USub a pos) (.neg A) :=
  (pe_un un_neg ha).imp fun σ H Q ⟨μ, st, ρ, R, E, h⟩ => ⟨μ, st, ρ, R, E, PostG.bind h fun μ1 s1 x v H1 e R1 r1 h1 => by
    cases x <;> first | exact h1.elim | exact ⟨_, r1, PostG.now h1 R1 rfl⟩⟩
/-- a test of a value -/
theorem test_b {γ δ : Type} {rep2 : List Addr → Hp → γ → δ → Prop} {K : PySem.W.Frag} {w : World} {r : R W} {μ : List Addr} {H : Hp} {f : Bool → Store → R γ} {Q : δ → Hp → Prop} {Q' : VK} (h : PostG K w ca rep2 (r.test f) μ H Q)
    (k : ∀ μ1 s1 c H1, Ext μ H μ1 H1 → Rep K w ca μ1 H1 s1 → PostG K w ca rep2 (f c s1) μ1 H1 Q → Q' (.bl c) H1) : Post K w ca r μ H Q' :=
  PostG.bind h fun μ1 s1 x v H1 e R1 r1 h1 => by
    cases x <;> first | exact h1.elim | skip
    rename_i c
    rw [show v = V.bl c from r1]
    exact k μ1 s1 c H1 e R1 h1
theorem testT_b {γ δ : Type} {rep2 : List Addr → Hp → γ → δ → Prop} {K : PySem.W.Frag} {w : World} {r : R W} {μ : List Addr} {H : Hp} {f : Bool → Store → R γ} {Q : δ → Hp → Prop} {Q' : Bool → Hp → Prop} (h : PostG K w ca rep2 (r.test f) μ H Q)
    (k : ∀ μ1 s1 c H1, Ext μ H μ1 H1 → Rep K w ca μ1 H1 s1 → PostG K w ca rep2 (f c s1) μ1 H1 Q → Q' c H1) : PostV K w ca (r.test fun b st => .ok b st) μ H Q' := by
  cases r with
  | ok x s =>
    cases x <;> first | exact h.elim | skip
    rename_i c
    exact fun μ1 v H1 e R1 (r1 : c = v) => r1 ▸ k μ1 s c H1 e R1 (PostG.shift e h)
  | exc x s => exact h
  | bad => exact h
theorem e_not (ha : EX X ca P call a A) : EX X ca P call (.UnaryOp .Not a pos) (.not A) :=
  (pe_not ha).imp fun σ H Q ⟨μ, st, ρ, R, E, h⟩ => ⟨μ, st, ρ, R, E, test_b h fun μ1 s1 c H1 e R1 h1 => ⟨c, rfl, PostG.now h1 R1 rfl⟩⟩
theorem e_and {rest : List PySem.Expr} (ha : EX X ca P call a A) (hb : EX X ca P call (.BoolOp .And (b :: rest) pos) B) : EX X ca P call (.BoolOp .And (a :: b :: rest) pos) (.and A B) :=
  (pe_and ha hb).imp fun σ H Q ⟨μ, st, ρ, R, E, h⟩ => ⟨μ, st, ρ, R, E, test_b h fun μ1 s1 c H1 e R1 h1 => ⟨c, rfl, by
    cases c with
    | false => exact PostG.now h1 R1 rfl
    | true => exact ⟨μ1, s1, ρ, R1, E.ext R e, test_b h1 fun μ2 s2 d H2 e2 R2 h2 => PostG.now h2 R2 rfl⟩⟩⟩
theorem e_or {rest : List PySem.Expr} (ha : EX X ca P call a A) (hb : EX X ca P call (.BoolOp .Or (b :: rest) pos) B) : EX X ca P call (.BoolOp .Or (a :: b :: rest) pos) (.or A B) :=
  (pe_or ha hb).imp fun σ H Q ⟨μ, st, ρ, R, E, h⟩ => ⟨μ, st, ρ, R, E, test_b h fun μ1 s1 c H1 e R1 h1 => ⟨c, rfl, by
    cases c with
    | true => exact PostG.now h1 R1 rfl
    | false => exact ⟨μ1, s1, ρ, R1, E.ext R e, test_b h1 fun μ2 s2 d H2 e2 R2 h2 => PostG.now h2 R2 rfl⟩⟩⟩
/-- tests: what is read of a value as a test -/
theorem tt_of {K : PySem.W.Frag} {w : World} {r : R W} {μ : List Addr} {H : Hp} {Q : Bool → Hp → Prop} (h : PostV K w ca (r.test fun b st => .ok b st) μ H Q) : Post K w ca r μ H fun v H1 => ∃ k, v = .bl k ∧ Q k H1 :=
  test_b h fun μ1 s1 c H1 e R1 h1 => ⟨c, rfl, h1 μ1 c H1 .refl R1 rfl⟩
theorem t_val (h : EX X ca P call a A) (he : ∀ whole, isTrue a X.env whole = (do let v ← whole; standAt a.pos; holding [v] (truthy v))) : TX X ca P call a A :=
  (pt_val h he).imp fun σ H Q ⟨μ, st, ρ, R, E, h⟩ => ⟨μ, st, ρ, R, E, tt_of h⟩
theorem t_not (ha : TX X ca P call a A) : TX X ca P call (.UnaryOp .Not a pos) (.not A) :=
  (pt_not ha).imp fun σ H Q ⟨μ, st, ρ, R, E, h⟩ => ⟨μ, st, ρ, R, E, by
    simp only [evE] at h
    cases hx : evE P call A ρ st with
    | ok x s =>
      rw [hx] at h
      cases x <;> first | exact h.elim | skip
      rename_i c
      exact fun μ1 v H1 e R1 (r1 : c = v) => r1 ▸ h μ1 (!c) H1 e R1 rfl
    | exc x s => rw [hx] at h; exact h
    | bad => rw [hx] at h; exact h⟩
/-- a test within a test -/
theorem tt_in {K : PySem.W.Frag} {w : World} {r : R W} {f : Bool → Store → R W} {μ : List Addr} {H : Hp} {Q : Bool → Hp → Prop} {Q' : Bool → Hp → Prop} (h : PostV K w ca ((r.test f).test fun b st => .ok b st) μ H Q)
    (k : ∀ μ1 s1 c H1, Ext μ H μ1 H1 → Rep K w ca μ1 H1 s1 → PostV K w ca ((f c s1).test fun b st => .ok b st) μ1 H1 Q → Q' c H1) : PostV K w ca (r.test fun b st => .ok b st) μ H Q' := by
  cases r with
  | ok x s =>
    cases x <;> first | exact h.elim | skip
    rename_i c
    exact fun μ1 v H1 e R1 (r1 : c = v) => r1 ▸ k μ1 s c H1 e R1 (PostG.shift e h)
  | exc x s => exact h
  | bad => exact h
theorem t_if (hc : TX X ca P call c C) (ha : TX X ca P call a A) (hb : TX X ca P call b B) : TX X ca P call (.IfExp c a b pos) (.ife C A B) := by
  refine ⟨fun pins s σ H Q I ⟨μ, st, ρ, R, E, h⟩ => ?_⟩
  rw [arm_isTrue_IfExp]
  have hq : tT X.K X.w ca P call C σ H fun k H1 => if k = true then tT X.K X.w ca P call A σ H1 Q else tT X.K X.w ca P call B σ H1 Q := ⟨μ, st, ρ, R, E, tt_in h fun μ1 s1 k H1 e R1 h1 => by
    cases k with
    | true => exact ⟨μ1, s1, ρ, R1, E.ext R e, h1⟩
    | false => exact ⟨μ1, s1, ρ, R1, E.ext R e, h1⟩⟩
  refine wpAny_bind (thn (hc.run pins s σ H _ I hq) fun d s1 ⟨H1, I1, q1⟩ => ?_)
  cases d with
  | true => exact ha.run pins s1 σ H1 Q I1 q1
  | false => exact hb.run pins s1 σ H1 Q I1 q1
theorem e_if (hc : TX X ca P call c C) (ha : EX X ca P call a A) (hb : EX X ca P call b B) : EX X ca P call (.IfExp c a b pos) (.ife C A B) :=
  (pe_ifExp hc ha hb).imp fun σ H Q ⟨μ, st, ρ, R, E, h⟩ => ⟨μ, st, ρ, R, E, testT_b h fun μ1 s1 k H1 e R1 h1 => by
    cases k with
    | true => exact ⟨μ1, s1, ρ, R1, E.ext R e, h1⟩
    | false => exact ⟨μ1, s1, ρ, R1, E.ext R e, h1⟩⟩
abbrev WX (X : Cx) (ca : Str → Addr) (P : Prog) (call : MP.Call) (a : PySem.Expr) (A : Ex) : Prop := PW X a (tT X.K X.w ca P call A)
theorem w_and {rest : List PySem.Expr} (ha : TX X ca P call a A) (hb : WX X ca P call (.BoolOp .And (b :: rest) pos) B) : WX X ca P call (.BoolOp .And (a :: b :: rest) pos) (.and A B) :=
  (pw_and ha hb).imp fun σ H Q ⟨μ, st, ρ, R, E, h⟩ => ⟨μ, st, ρ, R, E, tt_in h fun μ1 s1 c H1 e R1 h1 => by
    cases c with
    | false => exact h1 μ1 false H1 .refl R1 rfl
    | true => exact ⟨μ1, s1, ρ, R1, E.ext R e, tt_in h1 fun μ2 s2 d H2 e2 R2 h2 => h2 μ2 d H2 .refl R2 rfl⟩⟩
theorem w_or {rest : List PySem.Expr} (ha : TX X ca P call a A) (hb : WX X ca P call (.BoolOp .Or (b :: rest) pos) B) : WX X ca P call (.BoolOp .Or (a :: b :: rest) pos) (.or A B) :=
  (pw_or ha hb).imp fun σ H Q ⟨μ, st, ρ, R, E, h⟩ => ⟨μ, st, ρ, R, E, tt_in h fun μ1 s1 c H1 e R1 h1 => by
    cases c with
    | true => exact h1 μ1 true H1 .refl R1 rfl
    | false => exact ⟨μ1, s1, ρ, R1, E.ext R e, tt_in h1 fun μ2 s2 d H2 e2 R2 h2 => h2 μ2 d H2 .refl R2 rfl⟩⟩
theorem mark_no {b : PySem.Expr} {o : CmpOp} (h : nSet b = true) : behindInMarks o b = false := by
  cases b <;> first | rfl | (cases h)
theorem e_cmp {o : COp} (hu : X.A.units + 100 < cLine) (ha : EX X ca P call a A) (hb : EX X ca P call b B) (hm : nSet b = true) : EX X ca P call (.Compare a [copO o] [b] pos) (.cmp o A B) :=
  (pe_cmpR (or_cop ca hu o) ha hb (mark_no hm)).imp fun σ H Q ⟨μ, st, ρ, R, E, h⟩ => two_b (fun x y H Q z => z) R E h
theorem t_cmp {o : COp} (hu : X.A.units + 100 < cLine) (ha : EX X ca P call a A) (hb : EX X ca P call b B) (hm : nSet b = true) : TX X ca P call (.Compare a [copO o] [b] pos) (.cmp o A B) :=
  (pt_cmpR (or_cop ca hu o) ha hb (mark_no hm)).imp fun σ H Q ⟨μ, st, ρ, R, E, h⟩ => two_b (fun x y H Q z => z) R E (tt_of h)
theorem chn_b {o1 o2 : COp} {σ : L2.St} {H : Hp} {Q : VK} {μ : List Addr} {st : Store} {ρ : MP.Env} (R : Rep X.K X.w ca μ H st) (E : RepE X.K X.w μ H ρ σ)
    (h : Post X.K X.w ca (evE P call (.chn o1 o2 A B C) ρ st) μ H Q) : tChain (rC ca X.K X.w o1) (rC ca X.K X.w o2) (tE X.K X.w ca P call A) (tE X.K X.w ca P call B) (tE X.K X.w ca P call C) σ H Q := by
  refine ⟨μ, st, ρ, R, E, PostG.bind h fun μ1 s1 x v H1 e R1 r1 h1 => ⟨μ1, s1, ρ, R1, E.ext R e, PostG.bind h1 fun μ2 s2 y u H2 e2 R2 r2 h2 => ?_⟩⟩
  refine ⟨μ2, s2, x, y, R2, repV_ext R1 e2 r1, r2, test_b h2 fun μ3 s3 k H3 e3 R3 h3 => ⟨k, rfl, ?_⟩⟩
  cases k with
  | false => exact PostG.now h3 R3 rfl
  | true => exact ⟨μ3, s3, ρ, R3, ((E.ext R e).ext R1 e2).ext R2 e3, PostG.bind h3 fun μ4 s4 z t H4 e4 R4 r4 h4 => ⟨μ4, s4, y, z, R4, repV_ext R3 e4 (repV_ext R2 e3 r2), r4, h4⟩⟩
theorem e_chn {o1 o2 : COp} (hu : X.A.units + 100 < cLine) (ha : EX X ca P call a A) (hb : EX X ca P call b B) (hc : EX X ca P call c C) (hm : nSet c = true) : EX X ca P call (.Compare a [copO o1, copO o2] [b, c] pos) (.chn o1 o2 A B C) :=
  (pe_chain (or_cop ca hu o1) (or_cop ca hu o2) ha hb hc (mark_no hm)).imp fun σ H Q ⟨μ, st, ρ, R, E, h⟩ => chn_b R E h
theorem t_chn {o1 o2 : COp} (hu : X.A.units + 100 < cLine) (ha : EX X ca P call a A) (hb : EX X ca P call b B) (hc : EX X ca P call c C) (hm : nSet c = true) : TX X ca P call (.Compare a [copO o1, copO o2] [b, c] pos) (.chn o1 o2 A B C) :=
  (pt_chain (or_cop ca hu o1) (or_cop ca hu o2) ha hb hc (mark_no hm)).imp fun σ H Q ⟨μ, st, ρ, R, E, h⟩ => chn_b R E (tt_of h)
theorem ix_plain {b : PySem.Expr} (h : nSlice b = true) : PlainIx b := fun o i => by
  cases b <;> first | rfl | (cases h)
theorem e_ix (hu : X.A.units + 100 < cLine) (ha : EX X ca P call a A) (hb : EX X ca P call b B) (hs : nSlice b = true) : EX X ca P call (.Subscript a b pos) (.ix A B) :=
  (pe_ix (ix_ok ca (by omega)) ha hb (ix_plain hs)).imp fun σ H Q ⟨μ, st, ρ, R, E, h⟩ => two_b (fun x y H Q z => z) R E h
theorem e_sl {lo hi : Option PySem.Expr} {L U : Op} {p2 : Pos} (ha : EX X ca P call a A) (hl : PO X lo (tOp' X.K X.w ca P call L)) (hh : PO X hi (tOp' X.K X.w ca P call U)) : EX X ca P call (.Subscript a (.Slice lo hi none p2) pos) (.sl A L U) :=
  (pe_slice (sl_ok ca) ha hl hh).imp fun σ H Q ⟨μ, st, ρ, R, E, h⟩ => ⟨μ, st, ρ, R, E, PostG.bind h fun μ1 s1 x v H1 e R1 r1 h1 => ⟨μ1, s1, ρ, R1, E.ext R e, PostG.bind h1 fun μ2 s2 y u H2 e2 R2 r2 h2 => ⟨μ2, s2, ρ, R2, (E.ext R e).ext R1 e2,
    PostG.bind h2 fun μ3 s3 z t H3 e3 R3 r3 h3 => ⟨μ3, s3, x, R3, repV_ext R2 e3 (repV_ext R1 e2 r1), by
      rw [show u = y from r2.symm, show t = z from r3.symm]; exact h3⟩⟩⟩⟩
theorem o_none : PO X none (tOp' X.K X.w ca P call .none) := ⟨fun pins s σ H Q I ⟨μ, st, ρ, R, E, h⟩ => po_none.run pins s σ H Q I (h μ none H .refl R rfl)⟩
theorem o_some (ha : EX X ca P call a A) : PO X (some a) (tOp' X.K X.w ca P call (.some A)) := ⟨fun pins s σ H Q I ⟨μ, st, ρ, R, E, h⟩ => (po_some ha).run pins s σ H Q I ⟨μ, st, ρ, R, E, PostG.bind h fun μ1 s1 x v H1 e R1 r1 h1 => by
  cases x <;> first | exact h1.elim | exact ⟨_, r1, h1 μ1 _ H1 .refl R1 rfl⟩⟩⟩
theorem e_rev {k : Nat} {p1 p2 p3 : Pos} (ha : EX X ca P call a A) : EX X ca P call (.Subscript a (.Slice none none (some (.UnaryOp .USub (.Constant (.int 1) k p1) p2)) p3) pos) (.rev A) :=
  (pe_revL ha).imp fun σ H Q ⟨μ, st, ρ, R, E, h⟩ => ⟨μ, st, ρ, R, E, PostG.bind h fun μ1 s1 x v H1 e R1 r1 h1 => by
    cases x <;> first | exact h1.elim | skip
    simp only [revW] at h1
    obtain ⟨p, rfl, hm⟩ := r1
    split at h1
    · rename_i l el
      obtain ⟨vs, hq, rv⟩ := R1.lst hm el
      exact ⟨p, vs, rfl, .inl (.inl hq), fun q hp => Post.new h1 R1 hp ⟨_, upd_same, repVs_ext R1 (ext_new hp (R1.outN hp)) (repVs_rev rv)⟩⟩
    · exact h1.elim⟩
theorem sup_no {f : Str} {e : Sem Value} (h : nSup a = true) : attributeBase a f X.env e = e := by
  unfold attributeBase
  split
  · rename_i id p q
    have hid : (id != "super") = true := h
    simp [hid]
  · rfl
theorem repF_get {K : PySem.W.Frag} {w : World} {μ : List Addr} {H : Hp} {f : Str} : ∀ {fs : List (Str × W)} {q : List (Str × V)} {x : W}, RepF K w μ H fs q → fget fs f = some x → ∃ v, q.lookup f = some v ∧ RepV K w μ H x v
  | [], _, x, _, h => by simp [fget] at h
  | p :: r, _, x, rk, h => by
    obtain ⟨v, s, rfl, r1, r2⟩ := rk
    unfold fget at h
    rw [List.find?_cons] at h
    by_cases hp : p.1 = f
    · simp only [hp, decide_true, Option.map_some, Option.some.injEq] at h
      subst h
      exact ⟨v, by simp [List.lookup, hp], r1⟩
    · simp only [hp, decide_false] at h
      obtain ⟨v', e, r'⟩ := repF_get r2 h
      have : (f == p.1) = false := by simp [Ne.symm hp]
      exact ⟨v', by simp only [List.lookup, this]; exact e, r'⟩
theorem repF_none {K : PySem.W.Frag} {w : World} {μ : List Addr} {H : Hp} {f : Str} : ∀ {fs : List (Str × W)} {q : List (Str × V)}, RepF K w μ H fs q → fget fs f = none → q.lookup f = none
  | [], _, rk, h => by rw [show _ = _ from rk]; rfl
  | p :: r, _, rk, h => by
    obtain ⟨v, s, rfl, r1, r2⟩ := rk
    unfold fget at h
    rw [List.find?_cons] at h
    by_cases hp : p.1 = f
    · simp only [hp, decide_true, Option.map_some] at h
      cases h
    · simp only [hp, decide_false] at h
      have : (f == p.1) = false := by simp [Ne.symm hp]
      simp only [List.lookup, this]
      exact repF_none r2 h
/-- what is known of the fields of own classes -/
def FldsOk (P : Prog) (K : PySem.W.Frag) (ca : Str → Addr) : Prop := ∀ c fs, lookS P.flds c = some fs → Cls K (ca c) ∧ ∀ f ∈ fs, NoAttr K (ca c) f
theorem flds_in {f c : Str} (h : ((lookS P.flds c).getD []).contains f = true) : ∃ fs, lookS P.flds c = some fs ∧ f ∈ fs := by
  cases e : lookS P.flds c with
  | none => rw [e] at h; simp at h
  | some fs => rw [e] at h; exact ⟨fs, rfl, by simpa using h⟩
theorem e_fld {f : Str} (F : FldsOk P X.K ca) (ha : EX X ca P call a A) (hs : nSup a = true) : EX X ca P call (.Attribute a f pos) (.fld A f) :=
  (pe_fld ha (sup_no hs)).imp fun σ H Q ⟨μ, st, ρ, R, E, h⟩ => ⟨μ, st, ρ, R, E, PostG.bind h fun μ1 s1 x v H1 e R1 r1 h1 => by
    cases x <;> first | exact h1.elim | skip
    obtain ⟨p, rfl, hm⟩ := r1
    simp only at h1
    split at h1
    · rename_i cl fs el
      split at h1
      · rename_i hc
        cases ef : fget fs f with
        | none => rw [ef] at h1; exact h1.elim
        | some y =>
          rw [ef] at h1
          obtain ⟨dx, q, hq, rf⟩ := R1.obj _ p _ hm el
          obtain ⟨v, hv, rv⟩ := repF_get rf ef
          obtain ⟨gs, e1, e2⟩ := flds_in hc
          obtain ⟨c1, c2⟩ := F _ _ e1
          exact ⟨p, _, dx, q, v, rfl, hq, c1, c2 f e2, hv, PostG.now h1 R1 rv⟩
      · exact h1.elim
    · exact h1.elim⟩
/-! ### arguments -/
theorem a_nil : AX X ca P call [] .nil := pa_nil.imp fun σ H Q ⟨μ, st, ρ, R, E, h⟩ => h μ [] H .refl R rfl
theorem star_ok {e : PySem.Expr} {es : List PySem.Expr} (h : ∀ x p, e ≠ .Starred x p) : starEach (e :: es) X.env = (false, eval e X.env) :: starEach es X.env := by
  cases e <;> first | rfl | exact absurd rfl (h _ _)
theorem a_cons {es : List PySem.Expr} {As : Exs} (h : ∀ x p, a ≠ .Starred x p) (ha : EX X ca P call a A) (hs : AX X ca P call es As) : AX X ca P call (a :: es) (.cons A As) :=
  (pa_cons ha hs (star_ok h)).imp fun σ H Q ⟨μ, st, ρ, R, E, h⟩ => ⟨μ, st, ρ, R, E, PostG.bind h fun μ1 s1 x v H1 e R1 r1 h1 => ⟨μ1, s1, ρ, R1, E.ext R e, PostG.bind h1 fun μ2 s2 ws vs H2 e2 R2 r2 h2 =>
    h2 μ2 _ H2 .refl R2 ⟨v, vs, rfl, repV_ext R1 e2 r1, r2⟩⟩⟩
theorem a_bad {es : List PySem.Expr} {As : Exs} : AX X ca P call es (.cons bdE As) := ⟨fun p pins s σ H Q I ⟨μ, st, ρ, R, E, h⟩ => h.elim⟩
end
end MPS


set_option Elab.async false
set_option linter.all false
set_option maxRecDepth 100000
set_option autoImplicit false
set_option maxHeartbeats 4000000
/-! S8: calls, displays of dicts, targets. -/
namespace MPS
open PySem PySem.Spec PyProof.Rows L2 MP
section
variable {X : Cx} {ca : Str → Addr} {P : Prog} {call : MP.Call} {a b c e : PySem.Expr} {es : List PySem.Expr} {A B C : Ex} {As : Exs} {pos p apos : Pos}
theorem backTo_plain {pos : Pos} {env : PySem.Env} : ∀ {es : List PySem.Expr}, (∀ e ∈ es, ∀ x p, e ≠ .Starred x p) → (backTo pos (starEach es env)).any (·.1) = false ∧ (backTo pos (starEach es env)).all (fun x => !x.1) = true
  | [], _ => ⟨rfl, rfl⟩
  | e :: r, h => by
    have ih := backTo_plain (pos := pos) (env := env) (es := r) fun x hx => h x (List.mem_cons_of_mem _ hx)
    have he := h e List.mem_cons_self
    have e1 : starEach (e :: r) env = (false, eval e env) :: starEach r env := by
      cases e <;> first | rfl | exact absurd rfl (he _ _)
    rw [e1]
    exact ⟨(Bool.false_or _).trans ih.1, (Bool.true_and _).trans ih.2⟩
def NoStars (es : List PySem.Expr) : Prop := ∀ e ∈ es, ∀ x p, e ≠ .Starred x p
/-- what a def answers, as the calls take it -/
def spOf (K : PySem.W.Frag) (w : World) (ca : Str → Addr) (call : MP.Call) (f : FK) (n : Nat) : Sp := fun vs H Q _ => vs.length = n ∧ ∃ μ st ws, Rep K w ca μ H st ∧ RepVs K w μ H ws vs ∧ Post K w ca (call f ws st) μ H Q
/-- the call answers only with as many values as the def has parameters -/
def Arity (P : Prog) (call : MP.Call) : Prop := ∀ f ws st, (∃ d, P.fn f = some d ∧ ws.length = d.ps) ∨ call f ws st = .bad
theorem post_arity {f : FK} {ws : List W} {st : Store} {μ : List Addr} {H : Hp} {Q : VK} {K : PySem.W.Frag} {w : World} (ar : Arity P call) (h : Post K w ca (call f ws st) μ H Q) {d : Df} (hd : P.fn f = some d) : ws.length = d.ps := by
  rcases ar f ws st with ⟨d', e, hl⟩ | hb
  · rw [hd] at e; cases e; exact hl
  · rw [hb] at h; exact h.elim
theorem e_call {x : Str} {d : Df} {k j : Nat} (ar : Arity P call) (hd : P.fn (x, none) = some d) (c : C8.Cal X.prog X.w X.K X.mg X.base k x (spOf X.K X.w ca call (x, none) d.ps) []) (hr : Room j X.A) (hk : k ≤ j) (hg : Gl X x) (ns : NoStars (e :: es)) (ha : AX X ca P call (e :: es) As)
    (hdb : (x == ("__debug__" : Str)) = false) : EX X ca P call (.Call (.Name x p) (e :: es) [] pos) (.call x As) :=
  (C8.pe_c c hr hk hg ha hdb (star_ok (ns e List.mem_cons_self)) (backTo_plain fun x hx => ns x (List.mem_cons_of_mem _ hx)).1).imp fun σ H Q ⟨μ, st, ρ, R, E, h⟩ =>
    ⟨μ, st, ρ, R, E, PostG.bind h fun μ1 s1 ws vs H1 e R1 r1 h1 => ⟨by rw [List.append_nil, repVs_len r1]; exact post_arity ar h1 hd, μ1, s1, ws, R1, by rw [List.append_nil]; exact r1, h1⟩⟩
theorem e_call0 {x : Str} {d : Df} {k j : Nat} (ar : Arity P call) (hd : P.fn (x, none) = some d) (c : C8.Cal X.prog X.w X.K X.mg X.base k x (spOf X.K X.w ca call (x, none) d.ps) []) (hr : Room j X.A) (hk : k ≤ j) (hg : Gl X x)
    (hdb : (x == ("__debug__" : Str)) = false) : EX X ca P call (.Call (.Name x p) [] [] pos) (.call x .nil) := by
  obtain ⟨f, fd, ps, ds, F, hm, kp, b, dv⟩ := c.ex
  exact (pe_call0 F (hr.mono hk) hg hm kp b dv pass0 hdb).imp fun σ H Q ⟨μ, st, ρ, R, E, h⟩ => ⟨(show 0 = d.ps from post_arity (ws := []) ar h hd), μ, st, [], R, rfl, h⟩
/-- a class is made: what stands behind the new instance -/
theorem mak_b {c : Str} {d : Df} {K : PySem.W.Frag} {w : World} {μ : List Addr} {H : Hp} {st : Store} {ws : List W} {vs : List V} {Q : VK} (ar : Arity P call) (hd : P.fn (c, some "__init__") = some d) (R : Rep K w ca μ H st) (r : RepVs K w μ H ws vs)
    (h : Post K w ca ((call (c, some "__init__") (.ref st.length :: ws) (st ++ [.ins c []])).bind fun v st' => (match v with | .non => .ok (.ref st.length) st' | _ => .bad)) μ H Q) :
    ∀ x dx, H x = none → H dx = none → dx ≠ x → spOf K w ca call (c, some "__init__") d.ps (.ref x :: (vs ++ [])) (upd (upd H dx (.own x)) x (.ins (ca c) dx [])) (fun v H2 => v = .non ∧ Q (.ref x) H2) E0 := by
  intro x dx hx hdx hne
  have R1 : Rep K w ca μ (upd H dx (.own x)) st := R.laidOther hdx
  have e1 : Ext μ H μ (upd H dx (.own x)) := ext_other hdx
  have hx1 : upd H dx (.own x) x = none := by rw [upd_ne (Ne.symm hne)]; exact hx
  have e2 : Ext μ (upd H dx (.own x)) (μ ++ [x]) (upd (upd H dx (.own x)) x (.ins (ca c) dx [])) := ext_new hx1 (R1.outN hx1)
  have R2 : Rep K w ca (μ ++ [x]) (upd (upd H dx (.own x)) x (.ins (ca c) dx [])) (st ++ [.ins c []]) := R1.new hx1 ⟨dx, [], upd_same, rfl⟩
  have hm : (μ ++ [x])[st.length]? = some x := by rw [← R.len, List.getElem?_append_right (Nat.le_refl _), Nat.sub_self] <;> rfl
  have h2 := PostG.shift (e1.trans e2) h
  have rr : RepVs K w (μ ++ [x]) (upd (upd H dx (.own x)) x (.ins (ca c) dx [])) (.ref st.length :: ws) (.ref x :: (vs ++ [])) := ⟨_, _, rfl, ⟨x, rfl, hm⟩, by rw [List.append_nil]; exact repVs_ext R1 e2 (repVs_ext R e1 r)⟩
  have hb := PostG.bind (K := K) (w := w) (ca := ca) (rep := fun μ H a v => RepV K w μ H a v) h2 (Q' := fun v H2 => v = .non ∧ Q (.ref x) H2) fun μ3 s3 y v H3 e3 R3 r3 h3 => by
    cases y <;> first | exact h3.elim | exact ⟨r3, PostG.now h3 R3 ⟨x, rfl, e3.get hm⟩⟩
  refine ⟨?_, _, _, _, R2, rr, hb⟩
  have := post_arity ar hb hd
  rw [repVs_len rr]; exact this
theorem e_mak {x : Str} {d : Df} {k j : Nat} (ar : Arity P call) (hd : P.fn (x, some "__init__") = some d) (c : C8.Mak X.prog X.w X.K X.mg X.base k x (ca x) (spOf X.K X.w ca call (x, some "__init__") d.ps) []) (hr : Room j X.A) (hk : k + 1 ≤ j) (hg : Gl X x) (ns : NoStars (e :: es)) (ha : AX X ca P call (e :: es) As)
    (hdb : (x == ("__debug__" : Str)) = false) : EX X ca P call (.Call (.Name x p) (e :: es) [] pos) (.mak x As) :=
  (C8.pe_mk c hr hk hg ha hdb (star_ok (ns e List.mem_cons_self)) (backTo_plain fun x hx => ns x (List.mem_cons_of_mem _ hx)).1).imp fun σ H Q ⟨μ, st, ρ, R, E, h⟩ =>
    ⟨μ, st, ρ, R, E, PostG.bind h fun μ1 s1 ws vs H1 e R1 r1 h1 => mak_b ar hd R1 r1 h1⟩
theorem e_mak0 {x : Str} {d : Df} {k j : Nat} (ar : Arity P call) (hd : P.fn (x, some "__init__") = some d) (c : C8.Mak X.prog X.w X.K X.mg X.base k x (ca x) (spOf X.K X.w ca call (x, some "__init__") d.ps) []) (hr : Room j X.A) (hk : k + 1 ≤ j) (hg : Gl X x)
    (hdb : (x == ("__debug__" : Str)) = false) : EX X ca P call (.Call (.Name x p) [] [] pos) (.mak x .nil) := by
  obtain ⟨f, fd, ps, ds, M, F, hm, b, dv⟩ := c.ex
  exact (pe_make0 M F (hr.mono hk) hg hm b dv pass0 hdb).imp fun σ H Q ⟨μ, st, ρ, R, E, h⟩ => mak_b (ws := []) ar hd R rfl h
/-! ### methods of own classes -/
def MetOk (P : Prog) (call : MP.Call) (ca : Str → Addr) (X : Cx) (k : Nat) : Prop := ∀ c m d, P.fn (c, some m) = some d → m ≠ "__init__" → C8.Met X.prog X.w X.K X.mg X.base k (ca c) m (spOf X.K X.w ca call (c, some m) d.ps) []
theorem meth_ht {o : PySem.Expr} {m : Str} {es : List PySem.Expr} (hs : nSup o = true) (hline : (apos.endLine == pos.line) = true) (ns : NoStars es) (hfew : es.length < 30) :
    eval (.Call (.Attribute o m apos) es [] pos) X.env = (do
      let ov ← eval o X.env
      standAt apos.atName
      let (f, first) ← holding [ov] (getMethod ov m (do return (← importBound o X.env).getD true))
      callWith pos f first (backTo pos (starEach es X.env)) (backToKw pos (keywordEach [] X.env))) := by
  rw [arm_eval_Call, sup_no hs]
  have hform : methodCallForm (es.length + ([] : List Keyword).length) (backTo pos (starEach es X.env)) (backToKw pos (keywordEach [] X.env)) = true := by
    unfold methodCallForm
    have ek : backToKw pos (keywordEach [] X.env) = [] := rfl
    rw [(backTo_plain ns).2, ek]
    simpa using hfew
  have hpos : methodCallPos true o X.env apos pos = pure pos := by unfold methodCallPos; simp [hline]
  unfold methodCall
  rw [hform, hpos]
  rfl
theorem no_post {K : PySem.W.Frag} {w : World} {μ : List Addr} {H : Hp} {st : Store} {f : FK} {ws : List W} {Q : VK} (ar : Arity P call) (hn : P.fn f = none) (h : Post K w ca (call f ws st) μ H Q) : False := by
  rcases ar f ws st with ⟨d, e, _⟩ | hb
  · rw [hn] at e; cases e
  · rw [hb] at h; exact h
theorem no_bindf {α γ δ : Type} {rep2 : List Addr → Hp → γ → δ → Prop} {K : PySem.W.Frag} {w : World} {μ : List Addr} {H : Hp} {r : R α} {f : α → Store → R γ} {Q : δ → Hp → Prop} (h : PostG K w ca rep2 (r.bind f) μ H Q) (hf : ∀ a s, ¬ PostG K w ca rep2 (f a s) μ H Q) : False := by
  cases r with
  | ok a s => exact hf a s h
  | exc x s => exact h
  | bad => exact h
/-- o.m(..), by the instance's class -/
theorem e_mth {o : PySem.Expr} {m : Str} {k j : Nat} (ar : Arity P call) (M : MetOk P call ca X k) (hr : Room j X.A) (hk : k ≤ j) (hs : nSup o = true) (hline : (apos.endLine == pos.line) = true) (ns : NoStars (e :: es)) (hfew : (e :: es).length < 30)
    (ho : EX X ca P call o A) (ha : AX X ca P call (e :: es) As) : EX X ca P call (.Call (.Attribute o m apos) (e :: es) [] pos) (.mth A m As) := by
  refine ⟨fun pins s σ H Q I ⟨μ, st, ρ, R, E, h⟩ => ?_⟩
  refine PySem.W.methodCall_KW (thn (ho.run pins s σ H (fun x H1 => ∃ μ1 s1 n cl fs d, Rep X.K X.w ca μ1 H1 s1 ∧ RepE X.K X.w μ1 H1 ρ σ ∧ RepV X.K X.w μ1 H1 (.ref n) x ∧ s1[n]? = some (.ins cl fs) ∧ fget fs m = none ∧ m ≠ "__init__" ∧ P.fn (cl, some m) = some d ∧
      Post X.K X.w ca ((evEs P call As ρ s1).bind fun ws st => call (cl, some m) (.ref n :: ws) st) μ1 H1 Q) I ⟨μ, st, ρ, R, E, PostG.bind h fun μ1 s1 x v H1 e R1 r1 h1 => ?_⟩) fun u s1 ⟨x, H1, I1, rx, q⟩ => ?_) (meth_ht hs hline ns hfew)
  · cases x <;> first | exact h1.elim | skip
    rename_i n
    simp only at h1
    split at h1
    · rename_i cl fs el
      split at h1
      · rename_i hf
        cases hd : P.fn (cl, some m) with
        | none => exact (no_bindf h1 fun ws st hz => no_post ar hd hz).elim
        | some d => exact ⟨μ1, s1, n, cl, fs, d, R1, E.ext R e, r1, el, hf.1, hf.2, hd, h1⟩
      · exact h1.elim
    · exact h1.elim
  · obtain ⟨μ1, st1, n, cl, fs, d, R1, E1, r1, el, hf, hi, hd, h1⟩ := q
    obtain ⟨p, rfl, hm⟩ := r1
    obtain ⟨dx, q, hq, rf⟩ := R1.obj n p _ hm el
    obtain rfl : u = Value.ref p := rx
    obtain ⟨f, fd, ps, ds, hc, hmm, F, b, dv⟩ := (M cl m d hd hi).ex
    refine getmeth_ok I1 hq hc hmm (repF_none rf hf) ?_
    refine PySem.W.callWith_K (first := [.ref p]) (h₀ := X.base) I1.ok.mod.kin hmm.kp (thn (ha.run pos pins s1 σ H1 (fun vs H2 => spOf X.K X.w ca call (cl, some m) d.ps (.ref p :: (vs ++ [])) H2 Q E0) I1 ⟨μ1, st1, ρ, R1, E1, PostG.bind h1 fun μ2 s2 ws vs H2 e2 R2 r2 h2 => ?_⟩) fun us s2 ⟨vs, H2, I2, r, q2⟩ => ⟨I2.kIn, ?_⟩) (star_ok (ns e List.mem_cons_self)) (backTo_plain fun x hx => ns x (List.mem_cons_of_mem _ hx)).1
    · have rr : RepVs X.K X.w μ2 H2 (.ref n :: ws) (.ref p :: (vs ++ [])) := ⟨_, _, rfl, ⟨p, rfl, e2.get hm⟩, by rw [List.append_nil]; exact r2⟩
      exact ⟨by rw [repVs_len rr]; exact post_arity ar h2 hd, μ2, s2, _, R2, rr, h2⟩
    · exact run_fn (us := .ref p :: us) (vs := .ref p :: vs) F (hr.mono hk) b dv pass0 I2 (.cons rfl r) q2
theorem e_mth0 {o : PySem.Expr} {m : Str} {k j : Nat} (ar : Arity P call) (M : MetOk P call ca X k) (hr : Room j X.A) (hk : k ≤ j) (hs : nSup o = true) (hline : (apos.endLine == pos.line) = true)
    (ho : EX X ca P call o A) : EX X ca P call (.Call (.Attribute o m apos) [] [] pos) (.mth A m .nil) := by
  refine ⟨fun pins s σ H Q I ⟨μ, st, ρ, R, E, h⟩ => ?_⟩
  refine PySem.W.methodCall_KW (thn (ho.run pins s σ H (fun x H1 => ∃ μ1 s1 n cl fs d, Rep X.K X.w ca μ1 H1 s1 ∧ RepE X.K X.w μ1 H1 ρ σ ∧ RepV X.K X.w μ1 H1 (.ref n) x ∧ s1[n]? = some (.ins cl fs) ∧ fget fs m = none ∧ m ≠ "__init__" ∧ P.fn (cl, some m) = some d ∧
      Post X.K X.w ca (call (cl, some m) [.ref n] s1) μ1 H1 Q) I ⟨μ, st, ρ, R, E, PostG.bind h fun μ1 s1 x v H1 e R1 r1 h1 => ?_⟩) fun u s1 ⟨x, H1, I1, rx, q⟩ => ?_) (meth_ht hs hline (fun _ h => by cases h) (by decide))
  · cases x <;> first | exact h1.elim | skip
    rename_i n
    simp only at h1
    split at h1
    · rename_i cl fs el
      split at h1
      · rename_i hf
        cases hd : P.fn (cl, some m) with
        | none => exact (no_post ar hd h1).elim
        | some d => exact ⟨μ1, s1, n, cl, fs, d, R1, E.ext R e, r1, el, hf.1, hf.2, hd, h1⟩
      · exact h1.elim
    · exact h1.elim
  · obtain ⟨μ1, st1, n, cl, fs, d, R1, E1, r1, el, hf, hi, hd, h1⟩ := q
    obtain ⟨p, rfl, hm⟩ := r1
    obtain ⟨dx, q, hq, rf⟩ := R1.obj n p _ hm el
    obtain rfl : u = Value.ref p := rx
    obtain ⟨f, fd, ps, ds, hc, hmm, F, b, dv⟩ := (M cl m d hd hi).ex
    refine getmeth_ok I1 hq hc hmm (repF_none rf hf) ?_
    have rr : RepVs X.K X.w μ1 H1 [.ref n] [.ref p] := ⟨_, _, rfl, ⟨p, rfl, hm⟩, rfl⟩
    exact PySem.W.callWith_K0 (first := [.ref p]) I1.kIn hmm.kp (run_fn (us := [.ref p]) (vs := [.ref p]) F (hr.mono hk) b dv pass0 I1 (.cons rfl .nil) ⟨(show 1 = d.ps from post_arity (ws := [.ref n]) ar h1 hd), μ1, st1, _, R1, rr, h1⟩)
/-! ### methods of builtin types -/
theorem bmt_kind0 {m : Bmt} {x : W} {st : Store} {ws : List W} (h : kindW x st = 0) : bmtW m x ws st = .bad := by
  cases x <;> simp only [bmtW] <;> try rfl
  · simp [kindW] at h
  · rename_i n
    unfold kindW at h
    simp only at h
    cases e : st[n]? with
    | none => rfl
    | some o =>
      rw [e] at h
      cases o <;> simp at h
      rfl
/-- how the method of that type goes -/
def MtB (X : Cx) (ca : Str → Addr) (m : Bmt) (kd : Nat) : Prop := ∃ T id, PlainAttrs T ∧ Slot T (bmtN m) id ∧ typeOf (.builtin id) = pure (.type "method_descriptor") ∧ MtR X id (rBmt ca X.K X.w m kd) ∧ (∀ (H : Hp) (μ : List Addr) st (a : W) x, Rep X.K X.w ca μ H st → RepV X.K X.w μ H a x → kindW a st = kd → tyV X.K T x H)
theorem ty1 (H : Hp) (μ : List Addr) (st : Store) (a : W) (x : V) (R : Rep X.K X.w ca μ H st) (r : RepV X.K X.w μ H a x) (h : kindW a st = 1) : tyV X.K "list" x H := by
  obtain ⟨n, l, rfl, e⟩ := kind1 h
  obtain ⟨p, rfl, hm⟩ := r
  obtain ⟨vs, hq, _⟩ := R.lst hm e
  exact .inl ⟨rfl, vs, .inl (.inl hq)⟩
theorem ty2 (H : Hp) (μ : List Addr) (st : Store) (a : W) (x : V) (R : Rep X.K X.w ca μ H st) (r : RepV X.K X.w μ H a x) (h : kindW a st = 2) : tyV X.K "dict" x H := by
  obtain ⟨n, l, rfl, e⟩ := kind2 h
  obtain ⟨p, rfl, hm⟩ := r
  obtain ⟨vs, hq, _⟩ := R.obj n p _ hm e
  exact .inr (.inr (.inl ⟨rfl, .inl ⟨vs, hq⟩⟩))
theorem ty3 (H : Hp) (μ : List Addr) (st : Store) (a : W) (x : V) (R : Rep X.K X.w ca μ H st) (r : RepV X.K X.w μ H a x) (h : kindW a st = 3) : tyV X.K "str" x H := by
  obtain ⟨z, rfl⟩ := kind3 h
  obtain rfl := (show x = _ from r)
  rfl
theorem kind_le (x : W) (st : Store) : kindW x st = 0 ∨ kindW x st = 1 ∨ kindW x st = 2 ∨ kindW x st = 3 := by
  unfold kindW
  split
  · split
    · exact .inr (.inl rfl)
    · exact .inr (.inr (.inl rfl))
    · exact .inl rfl
  · exact .inr (.inr (.inr rfl))
  · exact .inl rfl
/-- each pair of a type and a method: known, or nothing comes of it -/
theorem mtb_all (hu : X.A.units + 100 < cLine) (m : Bmt) (kd : Nat) (hk : kd = 1 ∨ kd = 2 ∨ kd = 3) : MtB X ca m kd ∨ ∀ x st ws, kindW x st = kd → bmtW m x ws st = .bad := by
  have no1 : (m ≠ .append ∧ m ≠ .pop ∧ m ≠ .popAt ∧ m ≠ .extend ∧ m ≠ .clear ∧ m ≠ .index) → ∀ x st ws, kindW x st = 1 → bmtW m x ws st = .bad := by
    intro hm x st ws h
    obtain ⟨n, l, rfl, e⟩ := kind1 h
    simp only [bmtW, e]
    cases m <;> simp at hm <;> rfl
  have no2 : (m ≠ .update ∧ m ≠ .get) → ∀ x st ws, kindW x st = 2 → bmtW m x ws st = .bad := by
    intro hm x st ws h
    obtain ⟨n, l, rfl, e⟩ := kind2 h
    simp only [bmtW, e]
    cases m <;> simp at hm <;> rfl
  have no3 : m ≠ .index → ∀ x st ws, kindW x st = 3 → bmtW m x ws st = .bad := by
    intro hm x st ws h
    obtain ⟨z, rfl⟩ := kind3 h
    cases m <;> first | exact absurd rfl hm | rfl
  rcases hk with rfl | rfl | rfl
  · cases m with
    | append => exact .inl ⟨"list", _, PySem.F.plainAttrs_list, PySem.F.slot_list_append, PySem.F.type_list_append, mt_append_ok ca, ty1⟩
    | pop => exact .inl ⟨"list", _, PySem.F.plainAttrs_list, PySem.F.slot_list_pop, PySem.F.type_list_pop, mt_pop_ok ca, ty1⟩
    | popAt => exact .inl ⟨"list", _, PySem.F.plainAttrs_list, PySem.F.slot_list_pop, PySem.F.type_list_pop, mt_popAt_ok ca, ty1⟩
    | extend => exact .inl ⟨"list", _, PySem.F.plainAttrs_list, PySem.F.slot_list_extend, PySem.F.type_list_extend, mt_extend_ok ca, ty1⟩
    | clear => exact .inl ⟨"list", _, PySem.F.plainAttrs_list, PySem.F.slot_list_clear, PySem.F.type_list_clear, mt_clear_ok ca, ty1⟩
    | index => exact .inl ⟨"list", _, PySem.F.plainAttrs_list, PySem.F.slot_list_index, PySem.F.type_list_index, mt_lindex_ok ca, ty1⟩
    | _ => exact .inr (no1 (by simp))
  · cases m with
    | update => exact .inl ⟨"dict", _, PySem.F.plainAttrs_dict, PySem.F.slot_dict_update, PySem.F.type_dict_update, mt_update_ok ca, ty2⟩
    | get => exact .inl ⟨"dict", _, PySem.F.plainAttrs_dict, PySem.F.slot_dict_get, PySem.F.type_dict_get, mt_get_ok ca (by omega), ty2⟩
    | _ => exact .inr (no2 (by simp))
  · cases m with
    | index => exact .inl ⟨"str", _, PySem.F.plainAttrs_str, PySem.F.slot_str_index, PySem.F.type_str_index, mt_sindex_ok ca, ty3⟩
    | _ => exact .inr (no3 (by simp))
theorem e_bmt {o : PySem.Expr} {m : Bmt} (hu : X.A.units + 100 < cLine) (hs : nSup o = true) (hline : (apos.endLine == pos.line) = true) (ns : NoStars (e :: es)) (hfew : (e :: es).length < 30)
    (ho : EX X ca P call o A) (ha : AX X ca P call (e :: es) As) : EX X ca P call (.Call (.Attribute o (bmtN m) apos) (e :: es) [] pos) (.bmt m A As) := by
  refine ⟨fun pins s σ H Q I ⟨μ, st, ρ, R, E, h⟩ => ?_⟩
  have ek : backToKw pos (keywordEach [] X.env) = [] := rfl
  have hf : ((backTo pos (starEach (e :: es) X.env)).all (fun x => !x.1) && (backToKw pos (keywordEach [] X.env)).all (fun x => x.1.isSome)
      && decide ((e :: es).length + ([] : List Keyword).length + (if ([] : List Keyword).isEmpty then 0 else 1) < 30)) = true := by
    rw [(backTo_plain ns).2, ek]
    simpa using hfew
  refine wpAny_Call_method_late (sup_no hs) hf hline rfl (thn (ho.run pins s σ H (fun x H1 => ∃ μ1 s1 a kd, Rep X.K X.w ca μ1 H1 s1 ∧ RepE X.K X.w μ1 H1 ρ σ ∧ RepV X.K X.w μ1 H1 a x ∧ kindW a s1 = kd ∧ MtB X ca m kd ∧
      Post X.K X.w ca ((evEs P call As ρ s1).bind fun ws st1 => if kindW a st1 = kindW a s1 then bmtW m a ws st1 else .bad) μ1 H1 Q) I ⟨μ, st, ρ, R, E, PostG.bind h fun μ1 s1 x v H1 e R1 r1 h1 => ?_⟩) fun v s1 ⟨x, H1, I1, r1, q1⟩ => ?_)
  · rcases kind_le x s1 with h0 | hk
    · refine (no_bindf h1 fun ws st1 hz => ?_).elim
      split at hz
      · rename_i e1
        rw [bmt_kind0 (e1.trans h0)] at hz; exact hz
      · exact hz
    · rcases mtb_all (X := X) (ca := ca) hu m _ hk with hb | hn
      · exact ⟨μ1, s1, x, _, R1, E.ext R e, r1, rfl, hb, h1⟩
      · refine (no_bindf h1 fun ws st1 hz => ?_).elim
        split at hz
        · rename_i e1
          rw [hn _ _ _ e1] at hz; exact hz
        · exact hz
  · obtain ⟨μ1, st1, a, kd, R1, E1, ra, hkd, ⟨T, id, pa, slot, hty, hm, hT⟩, h1⟩ := q1
    obtain ⟨h3, h4⟩ := tyV_is I1 r1 (hT H1 μ1 st1 a x R1 ra hkd)
    refine ⟨T, id, pa, slot, hty, h3, h4, ?_⟩
    have hA := ha.run pos pins s1 σ H1 (fun vs H2 => rBmt ca X.K X.w m kd x vs H2 Q) I1 ⟨μ1, st1, ρ, R1, E1, PostG.bind h1 fun μ2 s2 ws vs H2 e2 R2 r2 h2 => ?_⟩
    · have h5 := (backTo_plain (pos := pos) (env := X.env) ns).1
      rw [star_ok (ns e List.mem_cons_self)] at hA h5 ⊢
      refine Calls.callWith_builtin h5 (Calls.evalArgs_plain ?_)
      exact thn hA fun us s2 ⟨vs, H2, I2, r2, q2⟩ => hm pins s2 σ H2 x vs v us Q I2 r1 r2 q2
    · split at h2
      · rename_i e1
        exact ⟨μ2, s2, a, ws, R2, repV_ext R1 e2 ra, e1.trans hkd, r2, h2⟩
      · exact h2.elim
theorem e_bmt0 {o : PySem.Expr} {m : Bmt} (hu : X.A.units + 100 < cLine) (hs : nSup o = true) (hline : (apos.endLine == pos.line) = true) 
    (ho : EX X ca P call o A) : EX X ca P call (.Call (.Attribute o (bmtN m) apos) [] [] pos) (.bmt m A .nil) := by
  refine ⟨fun pins s σ H Q I ⟨μ, st, ρ, R, E, h⟩ => ?_⟩
  refine wpAny_Call_method0_late (sup_no hs) hline (thn (ho.run pins s σ H (fun x H1 => ∃ μ1 s1 a kd, Rep X.K X.w ca μ1 H1 s1 ∧ RepE X.K X.w μ1 H1 ρ σ ∧ RepV X.K X.w μ1 H1 a x ∧ kindW a s1 = kd ∧ MtB X ca m kd ∧
      Post X.K X.w ca (bmtW m a [] s1) μ1 H1 Q) I ⟨μ, st, ρ, R, E, PostG.bind h fun μ1 s1 x v H1 e R1 r1 h1 => ?_⟩) fun v s1 ⟨x, H1, I1, r1, q1⟩ => ?_)
  · have h1 : Post X.K X.w ca (if kindW x s1 = kindW x s1 then bmtW m x [] s1 else .bad) μ1 H1 Q := h1
    rw [if_pos rfl] at h1
    rcases kind_le x s1 with h0 | hk
    · rw [bmt_kind0 h0] at h1; exact h1.elim
    · rcases mtb_all (X := X) (ca := ca) hu m _ hk with hb | hn
      · exact ⟨μ1, s1, x, _, R1, E.ext R e, r1, rfl, hb, h1⟩
      · rw [hn _ _ _ rfl] at h1; exact h1.elim
  · obtain ⟨μ1, st1, a, kd, R1, E1, ra, hkd, ⟨T, id, pa, slot, hty, hm, hT⟩, h1⟩ := q1
    obtain ⟨h3, h4⟩ := tyV_is I1 r1 (hT H1 μ1 st1 a x R1 ra hkd)
    exact ⟨T, id, pa, slot, hty, h3, h4, Calls.callWith_builtin rfl (PySem.evalArgs_none (hm pins s1 σ H1 x [] v [] Q I1 r1 .nil ⟨μ1, st1, a, [], R1, ra, hkd, rfl, h1⟩))⟩
/-! ### index in a tuple of the module -/
theorem e_gix {x : Str} {u : Value} {v : V} {y : W} (hg : Gl X x) (hm : X.mg x = some u) (r : RelV v u) (hr : ∀ μ H, RepV X.K X.w μ H y v) (hl : lookS P.glos x = some y) (ht : ∀ l, y = .tup l → ∃ q o, v = .ref q ∧ X.K.lookup q = some o ∧ o.cls = .type "tuple" ∧ o.dict = none) (hd : (x == ("__debug__" : Str)) = false) (hline : (apos.endLine == pos.line) = true)
    (na : NoStars [a]) (ha : EX X ca P call a A) : EX X ca P call (.Call (.Attribute (.Name x p) "index" apos) [a] [] pos) (.gix x A) := by
  by_cases hy : ∃ l, y = .tup l
  case neg =>
    refine pe_no fun σ H Q ⟨μ, st, ρ, R, E, h⟩ => no_bind (fun w st => ?_) h
    rw [hl]
    cases y <;> first | rfl | exact absurd ⟨_, rfl⟩ hy
  obtain ⟨l, rfl⟩ := hy
  have hb : starEach [a] X.env = (false, eval a X.env) :: starEach [] X.env := star_ok (na a List.mem_cons_self)
  refine (pe_bm PySem.F.plainAttrs_tuple PySem.F.slot_tuple_index PySem.F.type_tuple_index mt_tup_index (pe_glob hg hm r hd) (pa_cons ha pa_nil hb) (sup_no rfl) ?_ hline hb rfl).imp ?_
  · have h2 := (backTo_plain (pos := pos) (env := X.env) na).2
    have ek : backToKw pos (keywordEach [] X.env) = [] := rfl
    rw [h2, ek]; rfl
  · intro σ H Q ⟨μ, st, ρ, R, E, h⟩
    obtain ⟨q, vs, rfl, hs, rv⟩ := hr μ H
    obtain ⟨q', o, e1, k1, k2, k3⟩ := ht l rfl
    cases e1
    have hT : tyV X.K "tuple" (.ref q) H := .inr (.inl ⟨rfl, o, k1, k2, k3⟩)
    refine ⟨hT, μ, st, ρ, R, E, PostG.bind h fun μ1 s1 x' v H1 e R1 r1 h1 => ?_⟩
    simp only [hl] at h1
    cases x' <;> first | exact h1.elim | skip
    rename_i z
    simp only at h1
    split at h1
    · rename_i q1 hq1
      obtain ⟨q2, vs2, e2, hs2, rv2⟩ := hr μ1 H1
      cases e2
      have ev := allStrs_ok hq1 rv2
      subst ev
      cases ei : idx8 z q1 with
      | none => rw [ei] at h1; exact h1.elim
      | some j =>
        rw [ei] at h1
        obtain ⟨i1, i2⟩ := idx8_ok z ei
        exact ⟨q, q1, z, j, rfl, by rw [show v = _ from r1], hs2, i1, fun m hm => i2 m hm, PostG.now h1 R1 rfl⟩
    · exact h1.elim
/-! ### builtin functions -/
theorem blt_inv {x : Str} {b : Blt} (h : bltOf x = some b) : b ≠ .lenset ∧ b ≠ .str ∧ x ≠ "__name__" ∧ (x == ("__debug__" : Str)) = false ∧ ((∃ id, bltV b = .builtin id ∧ bootBuiltins x = some (.builtin id)) ∨ ∃ T, bltV b = .type T ∧ bootBuiltins x = some (.type T)) := by
  unfold bltOf at h
  repeat' split at h
  all_goals first
    | (cases h; done)
    | (cases h; rename_i e; subst e; exact ⟨by decide, by decide, by decide, by decide, .inl ⟨_, rfl, by kernel_rfl⟩⟩)
    | (cases h; rename_i e; subst e; exact ⟨by decide, by decide, by decide, by decide, .inr ⟨_, rfl, by kernel_rfl⟩⟩)
theorem e_blt {x : Str} {m : Blt} (hc : X.calm = true) (hx : bltOf x = some m) (hg : Gl X x) (hm : X.mg x = none) (ns : NoStars (e :: es)) (ha : AX X ca P call (e :: es) As) : EX X ca P call (.Call (.Name x p) (e :: es) [] pos) (.blt m As) := by
  obtain ⟨n1, n2, n3, n4, hv⟩ := blt_inv hx
  have cr := cr_blt (X := X) ca hc m n1 n2
  have conv : ∀ {σ : L2.St} {H : Hp} {Q : VK}, tE X.K X.w ca P call (.blt m As) σ H Q → tCB (rBlt ca X.K X.w m) (tA X.K X.w ca P call As) σ H Q := fun {σ H Q} ⟨μ, st, ρ, R, E, h⟩ =>
    ⟨μ, st, ρ, R, E, PostG.bind h fun μ1 s1 ws vs H1 e R1 r1 h1 => ⟨μ1, s1, ws, R1, r1, h1⟩⟩
  have e1 := star_ok (X := X) (es := es) (ns e List.mem_cons_self)
  have e2 := (backTo_plain (pos := pos) (env := X.env) (es := es) fun x hx => ns x (List.mem_cons_of_mem _ hx)).1
  rcases hv with ⟨id, hb, hv⟩ | ⟨T, hb, hv⟩
  · rw [hb] at cr
    exact (pe_callB cr hg hm hv ha n3 n4 e1 e2).imp fun σ H Q h => conv h
  · rw [hb] at cr
    exact (pe_callTy cr hg hm hv ha n3 n4 e1 e2).imp fun σ H Q h => conv h
theorem cl_inv {x : Str} {c : Cl} (h : clOf x = some c) : (∀ n, c ≠ .own n) ∧ x ≠ "__name__" ∧ (x == ("__debug__" : Str)) = false ∧ ∃ T, clV c = .ty T ∧ bootBuiltins x = some (.type T) := by
  unfold clOf at h
  repeat' split at h
  all_goals first
    | (cases h; done)
    | (cases h; rename_i e; subst e; exact ⟨(fun n z => by cases z), by decide, by decide, _, rfl, by kernel_rfl⟩)
theorem e_isi {x : Str} {m : Cl} {p2 : Pos} (hx : clOf x = some m) (hg : Gl X "isinstance") (hm : X.mg "isinstance" = none) (hg2 : Gl X x) (hm2 : X.mg x = none) (ns : ∀ x p, a ≠ .Starred x p) (ha : EX X ca P call a A) : EX X ca P call (.Call (.Name "isinstance" p) [a, .Name x p2] [] pos) (.isi A m) := by
  obtain ⟨n1, n2, n3, T, hT, hv⟩ := cl_inv hx
  have e1 : starEach [a, .Name x p2] X.env = (false, eval a X.env) :: starEach [.Name x p2] X.env := star_ok ns
  have hb : PE X (.Name x p2) (tC (clV m)) := by
    rw [hT]
    exact pe_bltn hg2 hm2 hv rfl n2 n3
  refine (pe_callB (call_isiW ca m n1) hg hm (by kernel_rfl) (pa_cons ha (pa_cons hb pa_nil) e1) (by decide) (by decide) e1 rfl).imp fun σ H Q ⟨μ, st, ρ, R, E, h⟩ => ⟨μ, st, ρ, R, E, PostG.bind h fun μ1 s1 y v H1 e R1 r1 h1 => ?_⟩
  cases hi : isiW y m s1 with
  | none => rw [hi] at h1; exact h1.elim
  | some r => rw [hi] at h1; exact ⟨μ1, s1, y, v, r, R1, r1, rfl, hi, PostG.now h1 R1 rfl⟩
/-! ### displays of dicts -/
def tPr (K : PySem.W.Frag) (w : World) (ca : Str → Addr) (P : Prog) (call : MP.Call) (ps : Prs) : L2.St → Hp → (List (V × V) → Hp → Prop) → Prop := fun σ H Q => ∃ μ st ρ, Rep K w ca μ H st ∧ RepE K w μ H ρ σ ∧
  PostG K w ca (fun μ H kvs (l : List (V × V)) => ∃ q : List (L2.Key × V), l = q.map (fun kv => (kV kv.1, kv.2)) ∧ RepK K w μ H kvs q) (evPs P call ps ρ st) μ H Q
/-- the pairs of a display -/
def DX (X : Cx) (ca : Str → Addr) (P : Prog) (call : MP.Call) (pos : Pos) (ks : List (Option PySem.Expr)) (vs : List PySem.Expr) (ps : Prs) : Prop := ∃ trs, PPs X pos ks vs trs ∧ ∀ σ H Q, tPr X.K X.w ca P call ps σ H Q → tPairs trs σ H Q
theorem d_nil : DX X ca P call pos [] [] .nil := ⟨[], pps_nil, fun σ H Q ⟨μ, st, ρ, R, E, h⟩ => h μ [] H .refl R ⟨[], rfl, rfl⟩⟩
theorem d_bad {ks : List (Option PySem.Expr)} {vs : List PySem.Expr} {ps : Prs} (h : ks.length = vs.length) (hall : ks.all (·.isSome) = true) : DX X ca P call pos ks vs (.cons bdE bdE ps) := by
  induction ks generalizing vs with
  | nil =>
    cases vs with
    | nil => exact ⟨[], pps_nil, fun σ H Q ⟨μ, st, ρ, R, E, h⟩ => h.elim⟩
    | cons => cases h
  | cons k ks ih =>
    cases vs with
    | nil => cases h
    | cons v vs =>
      cases k with
      | none => simp at hall
      | some k =>
        obtain ⟨trs, h1, h2⟩ := ih (vs := vs) (by simpa using h) (by simpa using hall)
        exact ⟨_, pps_cons (e_bad (ca := ca) (P := P) (call := call)) (e_bad (ca := ca) (P := P) (call := call)) h1, fun σ H Q ⟨μ, st, ρ, R, E, h⟩ => h.elim⟩
theorem d_cons {ks : List (Option PySem.Expr)} {vs : List PySem.Expr} {ps : Prs} (ha : EX X ca P call a A) (hb : EX X ca P call b B) (hr : DX X ca P call pos ks vs ps) : DX X ca P call pos (some a :: ks) (b :: vs) (.cons A B ps) := by
  obtain ⟨trs, h1, h2⟩ := hr
  refine ⟨_, pps_cons ha hb h1, fun σ H Q ⟨μ, st, ρ, R, E, h⟩ => ⟨μ, st, ρ, R, E, PostG.bind h fun μ1 s1 x v H1 e R1 r1 h1 => ⟨μ1, s1, ρ, R1, E.ext R e, PostG.bind h1 fun μ2 s2 y u H2 e2 R2 r2 h2' => h2 σ H2 _ ⟨μ2, s2, ρ, R2, (E.ext R e).ext R1 e2, PostG.bind h2' fun μ3 s3 kvs l H3 e3 R3 r3 h3 => ?_⟩⟩⟩⟩
  obtain ⟨q, rfl, rk⟩ := r3
  cases ek : keyW x with
  | none => rw [ek] at h3; exact h3.elim
  | some k =>
    rw [ek] at h3
    have hk := key_ok r1 ek
    subst hk
    exact h3 μ3 _ H3 .refl R3 ⟨(k, u) :: q, rfl, ⟨u, q, rfl, repV_ext R2 e3 r2, rk⟩⟩
theorem kVs_len {q : List (L2.Key × V)} {l : List (V × V)} (h : l = q.map (fun kv => (kV kv.1, kv.2))) : l.length = q.length := by rw [h]; simp
theorem e_dic {ks : List (Option PySem.Expr)} {vs : List PySem.Expr} {ps : Prs} (hall : ks.all (·.isSome) = true) (hl : ks.length = vs.length) (h15 : ks.length ≤ 15) (h : DX X ca P call pos ks vs ps) (h0 : ks = [] → ps = .nil ∨ ∃ r, ps = .cons bdE bdE r) : EX X ca P call (.Dict ks vs pos) (.dic ps) := by
  by_cases hk : ks = []
  · subst hk
    have : vs = [] := List.length_eq_zero_iff.mp hl.symm
    subst this
    rcases h0 rfl with rfl | ⟨r, rfl⟩
    · exact pe_dnewK.imp fun σ H Q ⟨μ, st, ρ, R, E, h⟩ p hp => Post.new (u := .dic []) h R hp ⟨[], upd_same, rfl⟩
    · exact pe_no fun σ H Q ⟨μ, st, ρ, R, E, h⟩ => h
  · obtain ⟨trs, h1, h2⟩ := h
    refine (pe_disp h1 hall hl hk h15).imp fun σ H Q ⟨μ, st, ρ, R, E, h⟩ p hp => h2 σ _ _ ⟨μ, st, ρ, R.laidOther hp, E.ext R (ext_other hp), ?_⟩
    have e0 : Ext μ H μ (upd H p (.dK [])) := ext_other hp
    refine PostG.bind0 h e0 fun μ1 s1 kvs l H1 e1 e01 R1 r1 h1 => ?_
    obtain ⟨q, rfl, rk⟩ := r1
    have hn : p ∉ μ1 := fun z => by
      have := e1.new p z (R.outN hp)
      rw [upd_same] at this; cases this
    have hp1 : H1 p = some (.dK []) := e1.keep p _ upd_same (R.outN hp)
    split at h1
    · rename_i hl15
      refine ⟨hp1, q, rfl, by rw [repK_len rk]; exact hl15, ?_⟩
      have e2 : Ext μ H (μ1 ++ [p]) (upd H1 p (.dK (mergeK [] q))) := by
        obtain ⟨ν, hν⟩ := e01.pre
        refine ⟨⟨ν ++ [p], by rw [hν, List.append_assoc]⟩, fun b o hb hbn => ?_, fun b hb hbn => ?_⟩
        · rw [upd_ne (ne_of_none hb hp)]
          exact e01.keep b o hb hbn
        · rcases List.mem_append.mp hb with hb | hb
          · exact e01.new b hb hbn
          · rw [show b = p by simpa using hb]; exact hp
      have e3 : Ext0 μ1 H1 (μ1 ++ [p]) (upd H1 p (.dK (mergeK [] q))) := ⟨⟨[p], rfl⟩, fun b o hb ho hbn => by
        have : b ≠ p := fun z => by
          rw [z, hp1] at hb; cases hb; exact ho trivial
        rw [upd_ne this]; exact hb⟩
      exact h1 _ _ _ e2 (R1.new0 hn e3 ⟨_, upd_same, repK_merge (repK_ext0 R1 e3 rk) rfl⟩) ⟨p, rfl, by rw [← R1.len, List.getElem?_append_right (Nat.le_refl _), Nat.sub_self] <;> rfl⟩
    · exact h1.elim
end
end MPS


set_option Elab.async false
set_option linter.all false
set_option maxRecDepth 100000
set_option autoImplicit false
set_option maxHeartbeats 4000000
/-! S9: targets, iterators, comprehensions. -/
namespace MPS
open PySem PySem.Spec PyProof.Rows L2 MP
section
variable {X : Cx} {ca : Str → Addr} {P : Prog} {call : MP.Call} {a b c e : PySem.Expr} {es : List PySem.Expr} {A B C : Ex} {As : Exs} {pos p apos : Pos}
/-! ### targets -/
abbrev GX (X : Cx) (ca : Str → Addr) (P : Prog) (call : MP.Call) (t : PySem.Expr) (T : Tg) : Prop := PG X t (tGt X.K X.w ca P call T)
abbrev GsX (X : Cx) (ca : Str → Addr) (P : Prog) (call : MP.Call) (t : List PySem.Expr) (T : Tgs) : Prop := PGs X t (tGts X.K X.w ca P call T)
theorem g_bad : GX X ca P call a bdG := ⟨fun pins s σ H v u Q I r ⟨μ, st, ρ, y, _, _, _, h⟩ => h.elim⟩
theorem set_same {i : Nat} {σ : L2.St} {v : Option V} : Same [i] σ (σ.set i v) := ⟨List.length_set, fun j hj => List.getElem?_set_ne (fun z => hj (by simp [z]))⟩
theorem g_name {i : Nat} {x : Str} (hN : X.N.Nodup) (hi : X.N[i]? = some x) (hx : Loc X.env.scope x) (hf : X.fn x = true ∨ X.env.scope.names.lookup x = some .local) : GX X ca P call (.Name x pos) (.name i) :=
  (pg_name hN hi hx hf).imp fun v σ H Q ⟨μ, st, ρ, y, R, E, r, h⟩ => h μ _ H .refl R ⟨E.set r, set_same⟩
/-- x[y] = w of ours -/
def rSetW (K : PySem.W.Frag) (w : World) (ca : Str → Addr) : TSet := fun o i v H Q => ∃ μ st a b c, Rep K w ca μ H st ∧ RepV K w μ H a o ∧ RepV K w μ H b i ∧ RepV K w μ H c v ∧ PostG K w ca (fun _ _ (_ : Unit) (_ : Unit) => True) (setW a b c st) μ H fun _ H' => Q H'
theorem Rep.wr {K : PySem.W.Frag} {w : World} {μ : List Addr} {H : Hp} {st : Store} {r : Nat} {a : Addr} {u : HO} {v : SO} {Q : Hp → Prop} (h : PostG K w ca (fun _ _ (_ : Unit) (_ : Unit) => True) (.ok () (st.set r v)) μ H fun _ H' => Q H') (R : Rep K w ca μ H st) (hm : μ[r]? = some a) (ro : RepO K w ca μ (upd H a u) a v) : Q (upd H a u) :=
  h μ () _ (ext_write (o := u) (List.mem_of_getElem? hm)) (R.write hm ro) trivial
theorem set_ok (hu : X.A.units + 100 < cLine) : PSet X (rSetW X.K X.w ca) := by
  intro pins s σ H o i v ov iv u Q I ro ri rv h
  obtain ⟨μ, st, a, b, c, R, ra, rb, rc, h⟩ := h
  cases a <;> first | exact h.elim | skip
  rename_i n
  obtain ⟨p, rfl, hm⟩ := ra
  simp only [setW] at h
  split at h
  · rename_i l el
    cases b <;> first | exact h.elim | skip
    rename_i k
    simp only at h
    split at h
    · rename_i j ej
      obtain ⟨vs, hq, rv'⟩ := R.lst hm el
      exact set_list pins s σ H _ i v ov iv u Q I ro ri rv ⟨p, vs, k, j, rfl, rb, hq, by rw [repVs_len rv']; exact ej, Rep.wr h R hm ⟨_, upd_same, repVs_ext R (ext_write (List.mem_of_getElem? hm) (o := .lst vs)) (repVs_set rv' rc)⟩⟩
    · exact h.elim
  · rename_i kvs el
    split at h
    · rename_i k ek
      split at h
      · rename_i hl
        obtain ⟨q, hq, rk⟩ := R.obj n p _ hm el
        have := key_ok rb ek
        subst this
        exact set_dict (by omega) pins s σ H _ _ v ov iv u Q I ro ri rv ⟨p, _, rfl, DPut.k hq (by rw [repK_len rk]; exact hl), Rep.wr h R hm ⟨_, upd_same, repK_ext R (ext_write (List.mem_of_getElem? hm) (o := .dK q)) (repK_put rc rk)⟩⟩
      · exact h.elim
    · exact h.elim
  · exact h.elim
theorem sub_asg {o i : PySem.Expr} (hs : nSlice i = true) (v : Value) : assign (.Subscript o i pos) X.env v = (do
      let ov ← holding [v] (eval o X.env)
      let iv ← holding [v, ov] (eval i X.env)
      standAt pos
      holding [v, ov, iv] (setItem ov iv v)
      release [v, ov, iv] []) := by
  cases i <;> first | rfl | (cases hs)
theorem g_sub {o i : PySem.Expr} (hu : X.A.units + 100 < cLine) (ho : EX X ca P call o A) (hi : EX X ca P call i B) (hs : nSlice i = true) : GX X ca P call (.Subscript o i pos) (.sub A B) :=
  (pg_sub ho hi (set_ok (ca := ca) hu) (sub_asg hs)).imp fun v σ H Q ⟨μ, st, ρ, y, R, E, r, h⟩ => ⟨μ, st, ρ, R, E, PostG.bind h fun μ1 s1 x vx H1 e1 R1 r1 h1 => ⟨μ1, s1, ρ, R1, E.ext R e1, PostG.bind h1 fun μ2 s2 z vz H2 e2 R2 r2 h2 =>
    ⟨μ2, s2, x, z, y, R2, repV_ext R1 e2 r1, r2, repV_ext R1 e2 (repV_ext R e1 r), PostG.bind h2 fun μ3 s3 _ _ H3 e3 R3 _ h3 => h3 μ3 _ H3 .refl R3 ⟨((E.ext R e1).ext R1 e2).ext R2 e3, Same.refl⟩⟩⟩⟩
theorem repF_len {K : PySem.W.Frag} {w : World} {μ : List Addr} {H : Hp} : ∀ {fs : List (Str × W)} {q : List (Str × V)}, RepF K w μ H fs q → q.length = fs.length
  | [], _, h => by rw [show _ = _ from h]; rfl
  | p :: r, _, h => by
    obtain ⟨v, s, rfl, _, h2⟩ := h
    rw [List.length_cons, List.length_cons, repF_len h2]
theorem repF_put {K : PySem.W.Frag} {w : World} {μ : List Addr} {H : Hp} {f : Str} {y : W} {v : V} (rv : RepV K w μ H y v) : ∀ {fs : List (Str × W)} {q : List (Str × V)}, RepF K w μ H fs q → RepF K w μ H (fput fs f y) (putF f v q)
  | [], _, h => by
    rw [show _ = _ from h]
    exact ⟨v, [], rfl, rv, rfl⟩
  | p :: r, _, h => by
    obtain ⟨u, s, rfl, h1, h2⟩ := h
    show RepF K w μ H (if p.1 = f then (p.1, y) :: r else p :: fput r f y) (if p.1 = f then (p.1, v) :: s else (p.1, u) :: putF f v s)
    split
    · exact ⟨v, s, rfl, rv, h2⟩
    · exact ⟨u, _, rfl, h1, repF_put rv h2⟩
theorem g_fld {o : PySem.Expr} {f : Str} (F : FldsOk P X.K ca) (ho : EX X ca P call o A) : GX X ca P call (.Attribute o f pos) (.fld A f) := by
  refine ⟨fun pins s σ H v u Q I r ⟨μ, st, ρ, y, R, E, ry, h⟩ => ?_⟩
  show wpAny _ _ (do
    let ov ← holding [u] (eval o X.env)
    standAt pos.atName
    holding [u, ov] (setAttr ov f u)
    release [u, ov] []) _ _ s
  refine wpAny_bind (wpAny_holding (thn (ho.run pins s σ H (fun x H1 => ∃ p C dx q, x = .ref p ∧ H1 p = some (.ins C dx q) ∧ Cls X.K C ∧ NoAttr X.K C f ∧ q.length < 1000 ∧ Q σ (upd H1 p (.ins C dx (putF f v q)))) I ⟨μ, st, ρ, R, E, PostG.bind h fun μ1 s1 x vx H1 e1 R1 r1 h1 => ?_⟩) fun ov s1 ⟨x, H1, I1, rx, p, C, dx, q, ex, hq, hc, hn, hl, hQ⟩ => ?_))
  · cases x <;> first | exact h1.elim | skip
    rename_i n
    obtain ⟨p, rfl, hm⟩ := r1
    simp only at h1
    split at h1
    · rename_i cl fs el
      split at h1
      · rename_i hf
        obtain ⟨dx, q, hq, rf⟩ := R1.obj n p _ hm el
        obtain ⟨gs, e2, e3⟩ := flds_in hf.1
        obtain ⟨c1, c2⟩ := F _ _ e2
        have ex := ext_write (o := .ins (ca cl) dx q) (u := .ins (ca cl) dx (putF f v q)) (H := H1) (List.mem_of_getElem? hm)
        refine ⟨p, ca cl, dx, q, rfl, hq, c1, c2 f e3, by rw [repF_len rf]; have := hf.2; omega, h1 μ1 σ _ ex (R1.write hm ⟨dx, _, upd_same, repF_put (repV_ext R1 ex (repV_ext R e1 ry)) (repF_ext R1 ex rf)⟩) ⟨(E.ext R e1).ext R1 ex, Same.refl⟩⟩
      · exact h1.elim
    · exact h1.elim
  · subst ex
    obtain rfl : ov = Value.ref p := rx
    refine wpAny_bind (wpAny_standAt (wpAny_bind (wpAny_holding (setattr_ok I1 hq hc hn hl r fun s3 I3 => ?_))))
    exact wpAny_release ⟨σ, _, I3, hQ⟩
theorem gs_nil : GsX X ca P call [] .nil := pgs_nil.imp fun vs σ H Q ⟨μ, st, ρ, ws, R, E, r, h⟩ => by
  cases ws with
  | nil => exact ⟨r, h μ _ H .refl R ⟨E, Same.refl⟩⟩
  | cons => exact h.elim
theorem gs_bad {ts : List PySem.Expr} {T : Tgs} : GsX X ca P call ts (.cons bdG T) := ⟨fun pins s σ H v u Q I r ⟨μ, st, ρ, ws, R, E, _, h⟩ => by cases ws <;> exact h.elim⟩
theorem gs_cons {t : PySem.Expr} {ts : List PySem.Expr} {T : Tg} {Ts : Tgs} (hn : ∀ x p, t ≠ .Starred x p) (h1 : GX X ca P call t T) (h2 : GsX X ca P call ts Ts) : GsX X ca P call (t :: ts) (.cons T Ts) :=
  (pgs_cons h1 h2 (by cases t <;> first | rfl | exact absurd rfl (hn _ _))).imp fun vs σ H Q ⟨μ, st, ρ, ws, R, E, r, h⟩ => by
    cases ws with
    | nil => exact h.elim
    | cons w ws =>
      obtain ⟨v, q, rfl, r1, r2⟩ := r
      exact ⟨v, q, rfl, μ, st, ρ, w, R, E, r1, PostG.bind h fun μ1 s1 ρ1 σ1 H1 e1 R1 r3 h1 => ⟨μ1, s1, ρ1, ws, R1, r3.1, repVs_ext R e1 r2, PostG.imp (rep := fun μ' H' ρ' σ' => RepE X.K X.w μ' H' ρ' σ' ∧ Same (tgsIx Ts) σ1 σ') (Q := Q) (by
        cases hx : evGs P call Ts ws ρ1 s1 with
        | ok ρ2 s2 =>
          rw [hx] at h1
          exact fun μ2 σ2 H2 e2 R2 r4 => h1 μ2 σ2 H2 e2 R2 ⟨r4.1, r3.2.trans r4.2 (fun i hi => by simp [tgsIx, hi]) (fun i hi => by simp [tgsIx, hi])⟩
        | exc x s => rw [hx] at h1; exact h1
        | bad => rw [hx] at h1; exact h1) fun _ _ z => z⟩⟩
theorem asg_len : ∀ {ts : List PySem.Expr} {env : PySem.Env}, (assignEach ts env).length = ts.length
  | [], _ => rfl
  | t :: r, env => by
    have ih := @asg_len r env
    cases t <;> (show (_ :: assignEach r env).length = _; simp [ih])
theorem asg_star : ∀ {ts : List PySem.Expr} {env : PySem.Env}, NoStars ts → (assignEach ts env).findIdx? (·.1) = none
  | [], _, _ => rfl
  | t :: r, env, h => by
    have ih := @asg_star r env fun x hx => h x (List.mem_cons_of_mem _ hx)
    have ht := h t List.mem_cons_self
    have e : assignEach (t :: r) env = (false, assign t env) :: assignEach r env := by
      cases t <;> first | rfl | exact absurd rfl (ht _ _)
    rw [e, List.findIdx?_cons]
    simp [ih]
theorem g_tup {ts : List PySem.Expr} {Ts : Tgs} {k : Nat} (hc : X.calm = true) (ns : NoStars ts) (h : GsX X ca P call ts Ts) : GX X ca P call (.Tuple ts k pos) (.tup ts.length Ts) := by
  refine ⟨fun pins s σ H v u Q I r ⟨μ, st, ρ, y, R, E, ry, hq⟩ => ?_⟩
  have hq : PostG X.K X.w ca (fun μ' H' ρ' σ' => RepE X.K X.w μ' H' ρ' σ' ∧ Same (tgsIx Ts) σ σ') (match seqOf y st with
    | some ws => if ws.length = ts.length then evGs P call Ts ws ρ st else .bad
    | none => .bad) μ H Q := hq
  cases es : seqOf y st with
  | none => rw [es] at hq; exact hq.elim
  | some ws =>
    rw [es] at hq
    simp only at hq
    split at hq
    · rename_i hl
      obtain ⟨q, vs, rfl, rvs, hs⟩ := seq_ok R es ry
      rcases hs with ⟨hs, _⟩ | ⟨hs, _⟩
      · exact (pg_unl hc h (asg_len.trans rfl) (asg_star ns)).run pins s σ H _ u Q I r ⟨q, vs, rfl, hs, (repVs_len rvs).trans hl, μ, st, ρ, ws, R, E, rvs, hq⟩
      · exact (pg_tup hc h (asg_len.trans rfl) (asg_star ns)).run pins s σ H _ u Q I r ⟨q, vs, rfl, hs, (repVs_len rvs).trans hl, μ, st, ρ, ws, R, E, rvs, hq⟩
    · exact hq.elim
/-! ### iterators -/
abbrev IX (X : Cx) (ca : Str → Addr) (P : Prog) (call : MP.Call) (tg it : PySem.Expr) (T : MP.It) : Prop := PI X tg it (tIt X.K X.w ca P call T)
theorem _root_.L2.PI.imp {X : Cx} {tg it : PySem.Expr} {t t' : TI} (h : PI X tg it t) (k : ∀ σ H Q, t' σ H Q → t σ H Q) : PI X tg it t' := ⟨fun pins s σ H Q I q => h.run pins s σ H Q I (k σ H Q q)⟩
mutual
theorem beq_ok : ∀ {a b : W}, W.beq a b = true → a = b
  | .non, b, h => by cases b <;> first | rfl | (simp [W.beq] at h)
  | .bl x, b, h => by cases b <;> first | (simp [W.beq] at h; rw [h]) | (simp [W.beq] at h)
  | .int x, b, h => by cases b <;> first | (simp [W.beq] at h; rw [h]) | (simp [W.beq] at h)
  | .str x, b, h => by cases b <;> first | (simp [W.beq] at h; rw [h]) | (simp [W.beq] at h)
  | .tup x, b, h => by
    cases b <;> first | (simp [W.beq] at h; done) | skip
    rename_i y
    have h' : W.beqs x y = true := by simpa [W.beq] using h
    rw [beqs_ok h']
  | .ref x, b, h => by cases b <;> first | (simp [W.beq] at h; rw [h]) | (simp [W.beq] at h)
  | .gd x, b, h => by cases b <;> first | (simp [W.beq] at h; rw [h]) | (simp [W.beq] at h)
  | .fro x, b, h => by
    cases b <;> first | (simp [W.beq] at h; done) | skip
    rename_i y
    have h' : W.beqs x y = true := by simpa [W.beq] using h
    rw [beqs_ok h']
theorem beqs_ok : ∀ {a b : List W}, W.beqs a b = true → a = b
  | [], b, h => by cases b <;> first | rfl | (simp [W.beqs] at h)
  | x :: r, b, h => by
    cases b with
    | nil => simp [W.beqs] at h
    | cons y q =>
      simp only [W.beqs, Bool.and_eq_true] at h
      rw [beq_ok h.1, beqs_ok h.2]
end
/-- a list of ours that stays -/
theorem stay_ok {K : PySem.W.Frag} {w : World} {μ μ' : List Addr} {H H' : Hp} {st' : Store} {n : Nat} {l : List W} {q : Addr} (hm : μ'[n]? = some q) (R' : Rep K w ca μ' H' st') (h : (match st'[n]? with | some (.lst l') => W.beqs l' l | _ => false) = true) : ∃ vs, H' q = some (.lst vs) ∧ RepVs K w μ' H' l vs := by
  split at h
  · rename_i l' e
    have := beqs_ok h
    subst this
    exact R'.lst hm e
  · cases h
theorem j_list {K : PySem.W.Frag} {w : World} {μ : List Addr} {H : Hp} {n : Nat} {l : List W} {q : Addr} (hm : μ[n]? = some q) : JOk K w ca ⟨l, [(n, l)]⟩ μ H (Itl K q) := by
  intro i μ' H' st' e R' hh
  have hh : (match st'[n]? with | some (.lst l') => W.beqs l' l | _ => false) = true := by
    have := hh
    simp only [Walk.holds, List.all_cons, List.all_nil, Bool.and_true] at this
    exact this
  obtain ⟨vs, hq, rv⟩ := stay_ok (μ := μ) (H := H) (e.get hm) R' hh
  have hs : SqL K H' q vs := .inl (.inl hq)
  refine ⟨fun hi => ⟨vs, hs, by rw [repVs_len rv]; exact hi⟩, fun a ha => ?_⟩
  obtain ⟨v, hv, ra⟩ := repVs_get rv ha
  refine ⟨⟨vs, v, hs, hv⟩, fun x H'' y => ?_⟩
  obtain ⟨e1, y⟩ := y
  subst e1
  have := y vs hs
  rw [hv] at this; cases this
  exact ⟨.refl, R', ra⟩
theorem j_fro {K : PySem.W.Frag} {w : World} {μ : List Addr} {H : Hp} {st : Store} {l : List W} {vs : List V} {q : Addr} (R : Rep K w ca μ H st) (hq : FroL K H q vs) (rv : RepVs K w μ H l vs) : JOk K w ca ⟨l, []⟩ μ H (Itl K q) := by
  intro i μ' H' st' e R' hh
  have hs : SqL K H' q vs := (froL_ext R e hq).sq
  have rv := repVs_ext R e rv
  refine ⟨fun hi => ⟨vs, hs, by rw [repVs_len rv]; exact hi⟩, fun a ha => ?_⟩
  obtain ⟨v, hv, ra⟩ := repVs_get rv ha
  refine ⟨⟨vs, v, hs, hv⟩, fun x H'' y => ?_⟩
  obtain ⟨e1, y⟩ := y
  subst e1
  have := y vs hs
  rw [hv] at this; cases this
  exact ⟨.refl, R', ra⟩
theorem j_tup {K : PySem.W.Frag} {w : World} {μ : List Addr} {H : Hp} {st : Store} {l : List W} {vs : List V} {q : Addr} (R : Rep K w ca μ H st) (hq : SqT K H q vs) (rv : RepVs K w μ H l vs) : JOk K w ca ⟨l, []⟩ μ H (Itt K q) := by
  intro i μ' H' st' e R' hh
  have hs : SqT K H' q vs := sqT_ext R e hq
  have rv := repVs_ext R e rv
  refine ⟨fun hi => ⟨vs, hs, by rw [repVs_len rv]; exact hi⟩, fun a ha => ?_⟩
  obtain ⟨v, hv, ra⟩ := repVs_get rv ha
  refine ⟨⟨vs, v, hs, hv⟩, fun x H'' y => ?_⟩
  obtain ⟨e1, y⟩ := y
  subst e1
  have := y vs hs
  rw [hv] at this; cases this
  exact ⟨.refl, R', ra⟩
theorem j_str {K : PySem.W.Frag} {w : World} {μ : List Addr} {H : Hp} {z : Str} : JOk K w ca ⟨z.cps.toList.map fun c => .str ⟨#[c]⟩, []⟩ μ H (Its z) := by
  intro i μ' H' st' e R' hh
  refine ⟨fun hi => (by simpa using hi : z.cps.size ≤ i), fun a ha => ?_⟩
  rw [List.getElem?_map] at ha
  obtain ⟨c, hc, rfl⟩ := Option.map_eq_some_iff.mp ha
  have hc' : z.cps[i]? = some c := by rw [← Array.getElem?_toList]; exact hc
  refine ⟨(Array.getElem?_eq_some_iff.mp hc').1, fun x H'' y => ?_⟩
  obtain ⟨e1, c', h1, h2⟩ := y
  subst e1
  rw [hc'] at h1; cases h1
  exact ⟨.refl, R', h2⟩
theorem j_range {K : PySem.W.Frag} {w : World} {μ : List Addr} {H : Hp} {lo : Int} {n : Nat} : JOk K w ca ⟨(List.range n).map fun (k : Nat) => .int (lo + k), []⟩ μ H (Itr lo n) := by
  intro i μ' H' st' e R' hh
  refine ⟨fun hi => (by simpa using hi : n ≤ i), fun a ha => ?_⟩
  rw [List.getElem?_map] at ha
  obtain ⟨c, hc, rfl⟩ := Option.map_eq_some_iff.mp ha
  obtain ⟨h1, h2⟩ := List.getElem?_eq_some_iff.mp hc
  rw [List.getElem_range] at h2
  subst h2
  refine ⟨(by simpa using h1 : i < n), fun x H'' y => ?_⟩
  obtain ⟨e1, y⟩ := y
  subst e1
  exact ⟨.refl, R', y⟩
/-- a list, a tuple, a text: what stands there -/
theorem i_seq {tg : PySem.Expr} (ha : EX X ca P call a A) : IX X ca P call tg a (.seq A) := by
  refine ⟨fun pins s σ H R I ⟨μ, st, ρ, RR, E, h⟩ => ?_⟩
  refine thn (ha.run pins s σ H (fun x H1 => ∃ μ1 s1 y k, Rep X.K X.w ca μ1 H1 s1 ∧ RepV X.K X.w μ1 H1 y x ∧ walkOf y s1 = some k ∧ ∀ J, JOk X.K X.w ca k μ1 H1 J → R J H1) I ⟨μ, st, ρ, RR, E, PostG.bind h fun μ1 s1 x v H1 e R1 r1 h1 => ?_⟩) fun v s1 ⟨x, H1, I1, r1, μ1, st1, y, k, R1, ry, hk, hR⟩ => ?_
  · cases hk : walkOf x s1 with
    | none => rw [hk] at h1; exact h1.elim
    | some k =>
      rw [hk] at h1
      exact ⟨μ1, s1, x, k, R1, r1, hk, fun J hJ => h1 μ1 J H1 .refl R1 hJ⟩
  · have fr : FpOk X pins H1 s1.heap.objs.size := I1.fpOk (Nat.le_refl _) (I1.hok.fresh (Nat.le_refl _))
    have goL : ∀ q vs, x = .ref q → SqL X.K H1 q vs → JOk X.K X.w ca k μ1 H1 (Itl X.K q) → wpAny (model X.prog X.w) X.A (pyIter v) (PIE X pins σ tg R) X.xe s1 := by
      intro q vs hx hq hJ
      subst hx
      cases r1
      obtain ⟨its, rv, pl, hz⟩ := I1.list hq
      refine wpAny_pyIter_list pl.isList ⟨s1.heap.objs.size, [s1.heap.objs.size], _, _, H1, rfl, I1.kept (t' := s1.toks) fun b o e => Heap.get?_push_of_some _ e, turn_list q _, ⟨_, Heap.get?_push_size _ rfl, rfl, rfl⟩, fun b hb => ?_, hR _ hJ⟩
      rw [show b = s1.heap.objs.size by simpa using hb]; exact fr
    have goT : ∀ q vs, x = .ref q → SqT X.K H1 q vs → JOk X.K X.w ca k μ1 H1 (Itt X.K q) → wpAny (model X.prog X.w) X.A (pyIter v) (PIE X pins σ tg R) X.xe s1 := by
      intro q vs hx hq hJ
      subst hx
      cases r1
      obtain ⟨its, rv, pl, hz⟩ := I1.tuple hq
      refine wpAny_pyIter_tuple (show s1.heap.IsTuple q its.toArray from pl) ⟨s1.heap.objs.size, [s1.heap.objs.size], _, _, H1, rfl, I1.kept (t' := s1.toks) fun b o e => Heap.get?_push_of_some _ e, turn_tuple q _, ⟨_, Heap.get?_push_size _ rfl, rfl, rfl⟩, fun b hb => ?_, hR _ hJ⟩
      rw [show b = s1.heap.objs.size by simpa using hb]; exact fr
    cases y <;> simp only [walkOf] at hk <;> try (cases hk; done)
    · split at hk
      · cases hk
        rename_i z hl
        obtain rfl := (show x = _ from ry)
        obtain ⟨t, rfl⟩ := r1
        have q := hR _ (j_str (z := z))
        cases ha : z.cps.all (· < 128)
        · exact wpAny_pyIter_wide ha (pi_one (tk := s1.toks) I1 _ (turn_str _ z t "str_iterator" (.inr rfl)) ⟨_, Heap.get?_push_size _ rfl, rfl, rfl⟩ q)
        · exact wpAny_pyIter_ascii ha (pi_one (tk := s1.toks) I1 _ (turn_str _ z t "str_ascii_iterator" (.inl rfl)) ⟨_, Heap.get?_push_size _ rfl, rfl, rfl⟩ q)
      · cases hk
    · cases hk
      obtain ⟨q, vs, ex, hs, rv⟩ := ry
      exact goT q vs ex hs (j_tup R1 hs rv)
    · rename_i n
      split at hk
      · rename_i l el
        cases hk
        obtain ⟨q, ex, hm⟩ := ry
        obtain ⟨vs, hq, rv⟩ := R1.lst hm el
        exact goL q vs ex (.inl (.inl hq)) (j_list hm)
      · cases hk
    · cases hk
      obtain ⟨q, vs, ex, hs, rv⟩ := ry
      exact goL q vs ex hs.sq (j_fro R1 hs rv)
theorem i_range1 {tg : PySem.Expr} (hg : Gl X "range") (hm : X.mg "range" = none) (ns : ∀ x p, a ≠ .Starred x p) (ha : EX X ca P call a A) : IX X ca P call tg (.Call (.Name "range" p) [a] [] pos) (.range1 A) :=
  (pi_range1 hg hm (pa_cons ha pa_nil (star_ok ns)) (star_ok ns)).imp fun σ H Q ⟨μ, st, ρ, R, E, h⟩ => ⟨μ, st, ρ, R, E, PostG.bind h fun μ1 s1 x v H1 e R1 r1 h1 => by
    cases x <;> first | exact h1.elim | skip
    rename_i j
    simp only at h1
    split at h1
    · rename_i hj
      refine ⟨j, by rw [show v = _ from r1], hj.1, hj.2, h1 μ1 _ H1 .refl R1 ?_⟩
      have := j_range (K := X.K) (w := X.w) (ca := ca) (μ := μ1) (H := H1) (lo := 0) (n := j.toNat)
      simpa using this
    · exact h1.elim⟩
theorem i_range2 {tg : PySem.Expr} (hg : Gl X "range") (hm : X.mg "range" = none) (ns : ∀ x p, a ≠ .Starred x p) (ns2 : ∀ x p, b ≠ .Starred x p) (ha : EX X ca P call a A) (hb : EX X ca P call b B) : IX X ca P call tg (.Call (.Name "range" p) [a, b] [] pos) (.range2 A B) := by
  have e2 : starEach [b] X.env = [(false, eval b X.env)] := star_ok ns2
  have e1 : starEach [a, b] X.env = [(false, eval a X.env), (false, eval b X.env)] := by rw [star_ok ns, e2]
  refine (pi_range2 hg hm (pa_cons ha (pa_cons hb pa_nil e2) (star_ok ns)) e1 e2).imp fun σ H Q ⟨μ, st, ρ, R, E, h⟩ => ⟨μ, st, ρ, R, E, PostG.bind h fun μ1 s1 x v H1 e R1 r1 h1 => ⟨μ1, s1, ρ, R1, E.ext R e, PostG.bind h1 fun μ2 s2 y u H2 e2 R2 r2 h2 => ?_⟩⟩
  cases x <;> first | exact h2.elim | skip
  cases y <;> first | exact h2.elim | skip
  rename_i i j
  simp only at h2
  split at h2
  · rename_i hj
    exact ⟨i, j, by rw [show v = _ from r1, show u = _ from r2], hj, h2 μ2 _ H2 .refl R2 j_range⟩
  · exact h2.elim
theorem enumL_get : ∀ (l : List W) (n i : Nat) (a : W), (enumL n l)[i]? = some a → ∃ b, l[i]? = some b ∧ a = .tup [.int (n + i : Nat), b]
  | [], n, i, a, h => by simp [enumL] at h
  | b :: r, n, 0, a, h => by
    simp [enumL] at h
    exact ⟨b, rfl, by rw [← h]; simp⟩
  | b :: r, n, i + 1, a, h => by
    obtain ⟨c, h1, h2⟩ := enumL_get r (n + 1) i a (by simpa [enumL] using h)
    exact ⟨c, by simpa using h1, by rw [h2, show n + 1 + i = n + (i + 1) by omega]⟩
theorem enumL_len : ∀ (l : List W) (n : Nat), (enumL n l).length = l.length
  | [], _ => rfl
  | b :: r, n => by simp [enumL, enumL_len r]
theorem zipL_get : ∀ (l m : List W) (i : Nat) (a : W), (zipL l m)[i]? = some a → ∃ b c, l[i]? = some b ∧ m[i]? = some c ∧ a = .tup [b, c]
  | [], m, i, a, h => by simp [zipL] at h
  | b :: r, [], i, a, h => by simp [zipL] at h
  | b :: r, c :: q, 0, a, h => by
    simp [zipL] at h
    exact ⟨b, c, rfl, rfl, h.symm⟩
  | b :: r, c :: q, i + 1, a, h => by
    obtain ⟨x, y, h1, h2, h3⟩ := zipL_get r q i a (by simpa [zipL] using h)
    exact ⟨x, y, by simpa using h1, by simpa using h2, h3⟩
theorem zipL_len : ∀ (l m : List W), (zipL l m).length = min l.length m.length
  | [], m => by simp [zipL]
  | b :: r, [] => by simp [zipL]
  | b :: r, c :: q => by simp [zipL, zipL_len r q]
/-- a pair that was just laid -/
theorem pair_ok {K : PySem.W.Frag} {w : World} {μ : List Addr} {H : Hp} {st : Store} {T : Addr} {x y : V} {a b : W} (R : Rep K w ca μ H st) (hT : H T = none) (ra : RepV K w μ H a x) (rb : RepV K w μ H b y) :
    Ext μ H μ (upd H T (.tup [x, y])) ∧ Rep K w ca μ (upd H T (.tup [x, y])) st ∧ RepV K w μ (upd H T (.tup [x, y])) (.tup [a, b]) (.ref T) :=
  have e : Ext μ H μ (upd H T (.tup [x, y])) := ext_other hT
  ⟨e, R.laidOther hT, T, [x, y], rfl, .inl (.inl upd_same), x, [y], rfl, repV_ext R e ra, y, [], rfl, repV_ext R e rb, rfl⟩
theorem j_enum {K : PySem.W.Frag} {w : World} {μ : List Addr} {H : Hp} {n : Nat} {l : List W} {q : Addr} (hm : μ[n]? = some q) : JOk K w ca ⟨enumL 0 l, [(n, l)]⟩ μ H (Ite K q) := by
  intro i μ' H' st' e R' hh
  have hh : (match st'[n]? with | some (.lst l') => W.beqs l' l | _ => false) = true := by
    have := hh
    simp only [Walk.holds, List.all_cons, List.all_nil, Bool.and_true] at this
    exact this
  obtain ⟨vs, hq, rv⟩ := stay_ok (μ := μ) (H := H) (e.get hm) R' hh
  have hs : SqL K H' q vs := .inl (.inl hq)
  refine ⟨fun hi => ⟨vs, hs, by rw [repVs_len rv]; rw [enumL_len] at hi; exact hi⟩, fun a ha => ?_⟩
  obtain ⟨b, hb, rfl⟩ := enumL_get l 0 i a ha
  obtain ⟨v, hv, ra⟩ := repVs_get rv hb
  refine ⟨⟨vs, v, hs, hv⟩, fun x H'' y => ?_⟩
  obtain ⟨T, z, rfl, hT, rfl, hz⟩ := y
  have := hz vs hs
  rw [hv] at this; cases this
  have := pair_ok (a := .int (i : Nat)) (x := .int (i : Nat)) R' hT rfl ra
  simpa using this
theorem j_zip {K : PySem.W.Frag} {w : World} {μ : List Addr} {H : Hp} {n m : Nat} {l k : List W} {q1 q2 : Addr} (hm : μ[n]? = some q1) (hm2 : μ[m]? = some q2) : JOk K w ca ⟨zipL l k, [(n, l)] ++ [(m, k)]⟩ μ H (Itz K q1 q2) := by
  intro i μ' H' st' e R' hh
  have hh : (match st'[n]? with | some (.lst l') => W.beqs l' l | _ => false) = true ∧ (match st'[m]? with | some (.lst l') => W.beqs l' k | _ => false) = true := by
    have := hh
    simp only [Walk.holds, List.cons_append, List.nil_append, List.all_cons, List.all_nil, Bool.and_true, Bool.and_eq_true] at this
    exact this
  obtain ⟨vs, hq, rv⟩ := stay_ok (μ := μ) (H := H) (e.get hm) R' hh.1
  obtain ⟨us, hq2, rv2⟩ := stay_ok (μ := μ) (H := H) (e.get hm2) R' hh.2
  have hs : SqL K H' q1 vs := .inl (.inl hq)
  have hs2 : SqL K H' q2 us := .inl (.inl hq2)
  refine ⟨fun hi => ⟨vs, us, hs, hs2, by rw [repVs_len rv, repVs_len rv2]; rw [zipL_len] at hi; omega⟩, fun a ha => ?_⟩
  obtain ⟨b, c, hb, hc, rfl⟩ := zipL_get l k i a ha
  obtain ⟨v, hv, ra⟩ := repVs_get rv hb
  obtain ⟨u, hu, rb⟩ := repVs_get rv2 hc
  refine ⟨⟨vs, us, v, u, hs, hs2, hv, hu⟩, fun x H'' y => ?_⟩
  obtain ⟨T, z, t, rfl, hT, rfl, hz, ht⟩ := y
  have h1 := hz vs hs
  rw [hv] at h1; cases h1
  have h2 := ht us hs2
  rw [hu] at h2; cases h2
  exact pair_ok R' hT ra rb
theorem i_enum {ts : List PySem.Expr} {kk : Nat} {tpos : Pos} (hg : Gl X "enumerate") (hm : X.mg "enumerate" = none) (ns : ∀ x p, a ≠ .Starred x p) (ha : EX X ca P call a A) : IX X ca P call (.Tuple ts kk tpos) (.Call (.Name "enumerate" p) [a] [] pos) (.enum A) :=
  (pi_enum hg hm (pa_cons ha pa_nil (star_ok ns)) (star_ok ns)).imp fun σ H Q ⟨μ, st, ρ, R, E, h⟩ => ⟨μ, st, ρ, R, E, PostG.bind h fun μ1 s1 x v H1 e R1 r1 h1 => by
    cases x <;> first | exact h1.elim | skip
    rename_i n
    obtain ⟨q, rfl, hm⟩ := r1
    cases el : s1[n]? with
    | none => simp only [walkOf, el] at h1; exact h1.elim
    | some o =>
      cases o <;> simp only [walkOf, el] at h1 <;> first | exact h1.elim | skip
      rename_i l
      obtain ⟨vs, hq, rv⟩ := R1.lst hm el
      exact ⟨q, vs, rfl, .inl (.inl hq), h1 μ1 _ H1 .refl R1 (j_enum hm)⟩⟩
theorem i_zip {ts : List PySem.Expr} {kk : Nat} {tpos : Pos} (hg : Gl X "zip") (hm : X.mg "zip" = none) (ns : ∀ x p, a ≠ .Starred x p) (ns2 : ∀ x p, b ≠ .Starred x p) (ha : EX X ca P call a A) (hb : EX X ca P call b B) : IX X ca P call (.Tuple ts kk tpos) (.Call (.Name "zip" p) [a, b] [] pos) (.zip A B) := by
  have e2 : starEach [b] X.env = [(false, eval b X.env)] := star_ok ns2
  refine (RZ.pi_zipA hg hm (pa_cons ha (pa_cons hb pa_nil e2) (star_ok ns)) (star_ok ns) (backTo_plain fun x hx => by rw [show x = b by simpa using hx]; exact ns2).1).imp fun σ H Q ⟨μ, st, ρ, R, E, h⟩ => ⟨μ, st, ρ, R, E, PostG.bind h fun μ1 s1 x v H1 e R1 r1 h1 => ⟨μ1, s1, ρ, R1, E.ext R e, PostG.bind h1 fun μ2 s2 y u H2 e2 R2 r2 h2 => ?_⟩⟩
  cases x <;> first | exact h2.elim | skip
  cases y <;> first | exact h2.elim | skip
  rename_i n m
  obtain ⟨q, rfl, hm⟩ := r1
  obtain ⟨q2, rfl, hm2⟩ := r2
  have hm' := e2.get hm
  cases el : s2[n]? with
  | none => simp only [walkOf, el] at h2; exact h2.elim
  | some o =>
    cases o <;> simp only [walkOf, el] at h2 <;> first | exact h2.elim | skip
    rename_i l
    cases ek : s2[m]? with
    | none => simp only [walkOf, ek] at h2; exact h2.elim
    | some o =>
      cases o <;> simp only [walkOf, ek] at h2 <;> first | exact h2.elim | skip
      rename_i k
      obtain ⟨vs, hq, rv⟩ := R2.lst hm' el
      obtain ⟨us, hq2, rv2⟩ := R2.lst hm2 ek
      exact ⟨q, q2, vs, us, rfl, .inl ⟨.inl (.inl hq), .inl (.inl hq2), h2 μ2 _ H2 .refl R2 (j_zip hm' hm2)⟩⟩
end
end MPS


set_option Elab.async false
set_option linter.all false
set_option maxRecDepth 100000
set_option autoImplicit false
set_option maxHeartbeats 4000000
/-! S10: comprehensions. -/
namespace MPS
open PySem PySem.Spec PyProof.Rows L2 MP
theorem bind_assoc' {α β γ : Type} (r : R α) (f : α → Store → R β) (g : β → Store → R γ) : (r.bind f).bind g = r.bind fun a s => (f a s).bind g := by
  cases r <;> rfl
section
variable {K : PySem.W.Frag} {w : World} {ca : Str → Addr} {μ μ' : List Addr} {H H' : Hp} {st : Store}
theorem Rep.other0 (R : Rep K w ca μ H st) (e : Ext0 μ H μ H') (h : ∀ b ∈ μ, H' b = H b) : Rep K w ca μ H' st := by
  refine ⟨R.len, R.nd, fun i a o h1 h2 => ?_⟩
  have ha : a ∈ μ := List.mem_of_getElem? h1
  have ro := R.obj i a o h1 h2
  cases o with
  | lst ws => obtain ⟨vs, q, r⟩ := ro; exact ⟨vs, by rw [h a ha]; exact q, repVs_ext0 R e r⟩
  | dic kvs => obtain ⟨s, q, r⟩ := ro; exact ⟨s, by rw [h a ha]; exact q, repK_ext0 R e r⟩
  | ins c fs => obtain ⟨dx, s, q, r⟩ := ro; exact ⟨dx, s, by rw [h a ha]; exact q, repF_ext0 R e r⟩
theorem upd_self {D : Addr} {o : HO} (h : H D = some o) : upd H D o = H := by
  funext b
  by_cases hb : b = D
  · rw [hb, upd_same, h]
  · rw [upd_ne hb]
theorem ext_notin {D : Addr} {o : HO} (e : Ext μ H μ' H') (h : H D = some o) (hn : D ∉ μ) : D ∉ μ' := fun z => by
  have := e.new D z hn
  rw [h] at this; cases this
end
section
variable {X : Cx} {ca : Str → Addr} {P : Prog} {call : MP.Call} {a b c e : PySem.Expr} {es : List PySem.Expr} {A B C : Ex} {As : Exs} {pos p apos : Pos}
abbrev CoX (X : Cx) (ca : Str → Addr) (P : Prog) (call : MP.Call) (ifs : List PySem.Expr) (T : Op) : Prop := PTs X ifs (tCo X.K X.w ca P call T)
theorem c_none : CoX X ca P call [] .none := ⟨fun pins s σ H Q I ⟨μ, st, ρ, R, E, h⟩ => pts_nil.run pins s σ H Q I (h μ true H .refl R rfl)⟩
theorem c_some (ha : TX X ca P call a A) : CoX X ca P call [a] (.some A) := ⟨fun pins s σ H Q I ⟨μ, st, ρ, R, E, h⟩ => (pts_one ha).run pins s σ H Q I ⟨μ, st, ρ, R, E, h⟩⟩
/-- the turns of a comprehension -/
theorem lc_b {T : Tg} {I : MP.It} {Cd : Op} {own : List (Str × Nat)} {σ : L2.St} {H : Hp} {Q : VK} {μ : List Addr} {st : Store} {ρ : MP.Env} (hix : ∀ i ∈ tgIx T, i ∈ own.map (·.2)) (R : Rep X.K X.w ca μ H st) (E : RepE X.K X.w μ H ρ σ)
    (h : Post X.K X.w ca (evE P call (.lc A (own.map (·.2)) T I Cd) ρ st) μ H Q) :
    tLc (tIt X.K X.w ca P call I) (tGt X.K X.w ca P call T) (tCo X.K X.w ca P call Cd) (tE X.K X.w ca P call A) (own.map (·.2)) σ H Q := by
  refine ⟨μ, st, ρ, R, E, PostG.bind h fun μ1 s1 k J H1 e1 R1 hJ h1 => fun D hD => ?_⟩
  have E1 := E.ext R e1
  generalize hturn : (fun (w : W) (st : Store) => (evG P call T w (MP.wipe ρ (own.map (·.2))) st).bind fun ρ' st => (evC P call Cd ρ' st).bind fun b st => if b then (evE P call A ρ' st).bind fun y st => MP.R.ok (some y) st else MP.R.ok none st) = turn at h1
  have h1 : Post X.K X.w ca ((loopC k turn k.items [] s1).bind fun ws st => MP.new (.lst ws) st) μ1 H1 Q := h1
  have hDn : D ∉ μ1 := R1.outN hD
  refine ⟨fun i m H' => i ≤ k.items.length ∧ m = k.items.length - i ∧ ∃ μ' st' aw av, Ext μ1 H1 μ' H' ∧ D ∉ μ' ∧ H' D = some (.lst av) ∧ Rep X.K X.w ca μ' H' st' ∧ RepVs X.K X.w μ' H' aw av ∧
    Post X.K X.w ca ((loopC k turn (k.items.drop i) aw st').bind fun ws st => MP.new (.lst ws) st) μ1 H1 Q,
    ⟨k.items.length, Nat.zero_le _, by simp, μ1, s1, [], [], ext_other hD, hDn, upd_same, R1.laidOther hD, rfl, h1⟩, ?_⟩
  rintro i m H' ⟨hi, rfl, μ', st', aw, av, e', hDn', hDv, R', ra, hp⟩
  have holds : k.holds st' = true := by
    cases hh : k.holds st' with
    | true => rfl
    | false =>
      cases hd : k.items.drop i <;> rw [hd] at hp <;> unfold loopC at hp <;> rw [hh] at hp <;> exact hp.elim
  obtain ⟨j1, j2⟩ := hJ i μ' H' st' e' R' holds
  by_cases hlt : i < k.items.length
  · obtain ⟨go, yl⟩ := j2 _ (List.getElem?_eq_getElem hlt)
    rw [List.drop_eq_getElem_cons hlt] at hp
    unfold loopC at hp
    rw [if_pos holds, bind_assoc'] at hp
    refine .inr ⟨go, fun H2 => ∃ m', m' < k.items.length - i ∧ i + 1 ≤ k.items.length ∧ m' = k.items.length - (i + 1) ∧ ∃ μ' st' aw av, Ext μ1 H1 μ' H2 ∧ D ∉ μ' ∧ H2 D = some (.lst av) ∧ Rep X.K X.w ca μ' H2 st' ∧ RepVs X.K X.w μ' H2 aw av ∧
      Post X.K X.w ca ((loopC k turn (k.items.drop (i + 1)) aw st').bind fun ws st => MP.new (.lst ws) st) μ1 H1 Q, fun H2 hn => hn, fun x H'' hy => ?_⟩
    obtain ⟨e2, R2, rx⟩ := yl x H'' hy
    have ea : Ext μ1 H1 μ' H'' := e'.trans e2
    have hD2 : H'' D = some (.lst av) := e2.keep _ _ hDv hDn'
    have ra2 := repVs_ext R' e2 ra
    have hp0 := hp
    rw [← hturn] at hp
    simp only [bind_assoc'] at hp
    refine ⟨μ', st', MP.wipe ρ (own.map (·.2)), _, R2, (E1.ext R1 ea).wipe _, rx, PostG.bind0 hp ea fun μ3 s3 ρ3 σ3 H3 e3 e03 R3 r3 hp3 => ⟨(r3.2.wipe hix).trans ?_, ?_⟩⟩
    · apply List.ext_getElem?
      intro j
      rw [wipe_at, wipe_at]
      by_cases hj : j ∈ own.map (·.2)
      · rw [if_pos hj, if_pos hj, L2.wipe_length]
      · rw [if_neg hj, if_neg hj]
    · refine ⟨μ3, s3, ρ3, R3, r3.1, PostG.bind0 hp3 e03 fun μ4 s4 b b' H4 e4 e04 R4 r4 hp4 => ?_⟩
      obtain rfl : b = b' := r4
      have e14 : Ext μ' H'' μ4 H4 := e3.trans e4
      have hD4 : H4 D = some (.lst av) := e14.keep _ _ hD2 hDn'
      have hDn4 : D ∉ μ4 := ext_notin e14 hD2 hDn'
      have ra4 := repVs_ext R2 e14 ra2
      cases b with
      | false =>
        rw [if_neg Bool.false_ne_true] at hp4
        exact ⟨k.items.length - (i + 1), by omega, hlt, rfl, μ4, s4, aw, av, e04, hDn4, hD4, R4, ra4, by rw [hturn] at hp4; exact hp4⟩
      | true =>
        rw [if_pos rfl] at hp4
        simp only [bind_assoc'] at hp4
        rw [if_pos rfl]
        refine ⟨μ4, s4, ρ3, R4, r3.1.ext R3 e4, PostG.bind0 hp4 e04 fun μ5 s5 y v H5 e5 e05 R5 r5 hp5 => ?_⟩
        have hD5 : H5 D = some (.lst av) := e5.keep _ _ hD4 hDn4
        have hDn5 : D ∉ μ5 := ext_notin e5 hD4 hDn4
        have ra5 := repVs_ext R4 e5 ra4
        have hp5 : Post X.K X.w ca ((if aw.length < LIM then loopC k turn (k.items.drop (i + 1)) (aw ++ [y]) s5 else .bad).bind fun ws st => MP.new (.lst ws) st) μ1 H1 Q := by rw [hturn] at hp5; exact hp5
        split at hp5
        · rename_i hl
          have ex : Ext0 μ5 H5 μ5 (upd H5 D (.lst (av ++ [v]))) := ⟨⟨[], by simp⟩, fun b o hb ho hn => by
            have : b ≠ D := fun z => by rw [z, hD5] at hb; cases hb; exact ho trivial
            rw [upd_ne this]; exact hb⟩
          refine ⟨av, hD5, by rw [repVs_len ra5]; exact hl, k.items.length - (i + 1), by omega, hlt, rfl, μ5, s5, aw ++ [y], av ++ [v], ?_, hDn5, upd_same, R5.other0 ex fun b hb => upd_ne fun z => hDn5 (z ▸ hb), repVs_ext0 R5 ex (repVs_app ra5 ⟨v, [], rfl, r5, rfl⟩), hp5⟩
          refine ⟨e05.pre, fun b o hb hn => ?_, e05.new⟩
          rw [upd_ne (ne_of_none hb hD)]
          exact e05.keep b o hb hn
        · exact hp5.elim
  · have e : i = k.items.length := by omega
    subst e
    rw [List.drop_length] at hp
    unfold loopC at hp
    rw [if_pos holds] at hp
    refine .inl ⟨j1 (Nat.le_refl _), ?_⟩
    have hp : Post X.K X.w ca (MP.new (.lst aw) st') μ1 H1 Q := hp
    have ex : Ext0 μ' H' (μ' ++ [D]) (upd H' D (.lst av)) := ⟨⟨[D], rfl⟩, fun b o hb ho hn => by
      rw [upd_self hDv]; exact hb⟩
    have Rn := R'.new0 (u := .lst aw) hDn' ex ⟨av, upd_same, repVs_ext0 R' ex ra⟩
    rw [upd_self hDv] at Rn
    refine hp (μ' ++ [D]) (.ref D) H' ?_ Rn ⟨D, rfl, by rw [← R'.len, List.getElem?_append_right (Nat.le_refl _), Nat.sub_self] <;> rfl⟩
    obtain ⟨ν, hν⟩ := e'.pre
    refine ⟨⟨ν ++ [D], by rw [hν, List.append_assoc]⟩, e'.keep, fun b hb hn => ?_⟩
    rcases List.mem_append.mp hb with hb | hb
    · exact e'.new b hb hn
    · rw [show b = D by simpa using hb]; exact hD
end
end MPS


set_option Elab.async false
set_option linter.all false
set_option maxRecDepth 100000
set_option autoImplicit false
set_option maxHeartbeats 4000000
/-! S17: set(xs), xs a list of texts: how many distinct ones. -/
namespace MPS
open PySem PySem.Spec PyProof.Rows L2 MP
theorem dl_snoc (l : List Str) (x : Str) : dl (l ++ [x]) = dStep (dl l) x := by unfold MP.dl; rw [List.foldl_append]; rfl
theorem dl_len : ∀ l : List Str, ∀ acc : List Str, (l.foldl dStep acc).length ≤ acc.length + l.length
  | [], acc => Nat.le_refl _
  | x :: r, acc => by
    have h1 := dl_len r (dStep acc x)
    have h2 : (dStep acc x).length ≤ acc.length + 1 := by
      unfold dStep
      split
      · omega
      · simp
    simp only [List.foldl_cons, List.length_cons]
    omega
theorem dStep_any (acc : List Str) (x k : Str) : ((acc.any (· == k)) || decide (k = x)) = (dStep acc x).any (· == k) := by
  unfold dStep
  split
  · rename_i h
    by_cases hk : k = x
    · subst hk
      rw [h]; rfl
    · simp [hk]
  · rw [List.any_append]
    congr 1
    by_cases hk : k = x
    · subst hk; simp
    · have : (x == k) = false := beq_eq_false_iff_ne.mpr (Ne.symm hk)
      simp [hk, this]
theorem dStep_len (acc : List Str) (x : Str) : (if acc.any (· == x) then acc.length else acc.length + 1) = (dStep acc x).length := by
  unfold dStep
  split <;> simp
section
variable {P : Program} {w : World} {A : Around} {R : Result → Shared → Prop} {I S : Addr} {fp wr : List Addr} {G : Array GenState → Array GenState → Prop} {n : Nat} {Pv : Nat → Value → Prop} {St : Nat → Shared → Prop} {xs : List Str}
/-- the set at S holds the first i texts -/
abbrev Holds (P : Program) (w : World) (S : Addr) (xs : List Str) (i : Nat) (h : Heap) : Prop := h.SetOf (PySem.strKind P w) S (fun k => (dl (xs.take i)).any (· == k)) (dl (xs.take i)).length
theorem Holds.moved {i : Nat} {s s' : Shared} {ws : List Addr} (h : Holds P w S xs i s.heap) (hm : Moved ws G s s') (hS : S ∉ ws) : Holds P w S xs i s'.heap := by
  obtain ⟨o, es, ep, t, ho, rest⟩ := h
  exact ⟨o, es, ep, t, hm.heap S _ hS ho, rest⟩
theorem set_turns (W : WalksS P w A.in1 I fp wr G n Pv St) (hSf : S ∉ fp) (hn : xs.length = n) (hb : n + 1 < scanBound) (hv : ∀ i v, Pv i v → ∃ x t, xs[i]? = some x ∧ v = .str x t) :
    ∀ (m i : Nat) (s : Shared), i + m = n → St i s → Holds P w S xs i s.heap → (∀ s', Moved (S :: wr) G s s' → Holds P w S xs n s'.heap → R (.ok (.ret .none)) s') →
      codeAny (model P w) A (.builtin "set.update.loop" ⟨[.ref S, .ref I], []⟩) R s := by
  have hSw : S ∉ wr := fun h => hSf (W.sub _ h)
  have wider : ∀ b ∈ wr, b ∈ S :: wr := fun b hb => List.mem_cons_of_mem _ hb
  intro m
  induction m with
  | zero =>
    intro i s hi hst hS hR
    rw [Nat.add_zero] at hi
    subst hi
    refine codeAny_builtin PyProof.Rows.F.entry_set_update_loop ?_
    rw [Around.under_plainId PyProof.Rows.F.plain_set_update_loop _]
    show wpAny _ A.in1 (pyNext (.ref I) >>= _) _ _ s
    exact wpAny_bind (W.done s _ _ hst fun s' hm => wpAny_pure (hR s' (hm.mono wider) (hS.moved hm hSw)))
  | succ m ih =>
    intro i s hi hst hS hR
    have hlt : i < n := by omega
    refine codeAny_builtin PyProof.Rows.F.entry_set_update_loop ?_
    rw [Around.under_plainId PyProof.Rows.F.plain_set_update_loop _]
    show wpAny _ A.in1 (pyNext (.ref I) >>= _) _ _ s
    refine wpAny_bind (W.item i s _ _ hlt hst fun v s1 hp hst1 hm => ?_)
    obtain ⟨x, t, hx, rfl⟩ := hv i v hp
    have hS1 := hS.moved hm hSw
    have few : (dl (xs.take i)).length + 1 < scanBound := by
      have h1 := dl_len (xs.take i) []
      have h2 : (xs.take i).length ≤ i := by rw [List.length_take]; exact Nat.min_le_left _ _
      have h3 : (dl (xs.take i)).length ≤ 0 + (xs.take i).length := h1
      omega
    show wpAny _ A.in1 (holding [Value.str x t] (setAdd S (.str x t)) >>= _) _ _ s1
    refine wpAny_bind (wpAny_holding ?_)
    unfold setAdd
    refine wpAny_holding (wpAny_bind ((PySem.strKind P w).pyHash (k := x) (strKind_is _ _ _ _) ?_))
    refine wpAny_setAddHashed_of (knd := PySem.strKind P w) (s := { s1 with toks := s1.toks + 1 }) (strKind_is _ _ _ _) rfl hS1 few fun h' sb hS2 => ?_
    have e1 : xs.take (i + 1) = xs.take i ++ [x] := by rw [List.take_add_one, hx]; rfl
    have hS3 : Holds P w S xs (i + 1) h' := by
      unfold Holds
      rw [e1, dl_snoc]
      exact PyProof.Rows.SetOf_congr hS2 (fun k => dStep_any _ _ _) (dStep_len _ _)
    refine wpAny_pure ⟨plainId_quiet PyProof.Rows.F.plain_set_update_loop _, ih (i + 1) _ (by omega) (W.frame _ s1 _ _ hst1 (Nat.le_succ _) fun b hb o e => ?_) hS3 fun s2 hm2 hn2 => hR s2 (Moved.trans W.gtrans ((hm.mono wider).then_heap (Nat.le_succ _) fun b o hb e => ?_) hm2) hn2⟩
    · have : b ≠ S := fun z => hSf (z ▸ hb)
      exact (sb.2 b this).trans e
    · have : b ≠ S := fun z => hb (z ▸ List.mem_cons_self)
      exact (sb.2 b this).trans e
end
section
variable {prog : Program} {w : World} {A : Around} {E : Value → Shared → Prop} {s : Shared}
set_option maxHeartbeats 6400000 in
/-- set(l), l a list of texts -/
theorem set_of_list {l : Addr} {items : Array Value} {xs : List Str} {Q : Value → Shared → Prop} (hh : A.handled = none) (hl : s.heap.IsList l items) (hi : PyProof.Rows.StrsAre items.toList xs) (hb : items.size + 1 < scanBound)
    (h : ∀ (h' : Heap) (tk : Nat), Holds prog w s.heap.objs.size xs items.size h' → (∀ b o, b < s.heap.objs.size → s.heap.get? b = some o → h'.get? b = some o) → Q (.ref s.heap.objs.size) { s with heap := h', toks := tk }) :
    wpAny (model prog w) A (call (.type "set") [.ref l]) Q E s := by
  obtain ⟨c, tl, hmro⟩ := PySem.F.called_set.mro
  have hmade := PySem.F.called_set.made
  have hsub := PySem.F.called_set.sub
  refine wpAny_call (codeAny_of_tree ?_)
  show wpAny _ _ (callAny (.type "set") _) _ _ _
  refine wpAny_pure ⟨Code.quiet_builtin _ (by decide +kernel), codeAny_builtin PySem.F.entry_type_call ?_⟩
  rw [Around.under_plain (weight_type_call_type "set" [.ref l] []) rfl]
  have h1 := PySem.F.called_set.notType
  have h2 := PySem.F.called_set.canCreate
  have hct := PySem.F.typeCall_set_1 (.ref l)
  repeat (any_goals (first | assumption | wp_step))
  refine codeAny_mono (code_set_new_1 (.ref l) (E := E) (Q₁ := fun obj s₁ => ∃ led : Bool, obj = .ref s.heap.objs.size ∧ s₁ = { s with heap := s.heap.push { cls := .type "set", dict := none, data := .set #[] 0 (.fresh 0 0 led) } }) fun led => ⟨led, rfl, rfl⟩) fun r s₁ hr => ?_
  cases r with
  | error e => exact hr
  | ok fl =>
    cases fl with
    | ret obj =>
      obtain ⟨led, rfl, rfl⟩ := hr
      generalize hset : ({ cls := .type "set", dict := none, data := .set #[] 0 (.fresh 0 0 led) } : Obj) = ob
      have hS : (s.heap.push ob).get? s.heap.objs.size = some ob := Heap.get?_push_size _ (by rw [← hset]; rfl)
      have hT : Shared.TypeIs { s with heap := s.heap.push ob } (.ref s.heap.objs.size) "set" := ⟨_, hS, by rw [← hset]⟩
      have hli := PySem.F.called_set.init.lookup
      have hbi := PySem.F.called_set.init.bind (.ref s.heap.objs.size)
      repeat (any_goals (first | assumption | wp_step))
      refine codeAny_mono (codeAny_call_builtin (R := wants (fun r s₂ => r = .none ∧ ∃ h' tk, s₂ = { s with heap := h', toks := tk } ∧ Holds prog w s.heap.objs.size xs items.size h' ∧ (∀ b o, b < s.heap.objs.size → s.heap.get? b = some o → h'.get? b = some o)) E)
        PySem.F.called_set.init.plain PySem.F.entry_set_init (check_set_init_1 hT ?_)) fun r₂ s₂ hr₂ => ?_
      · obtain ⟨⟨ocls, odict, odata, oslots⟩, hol, hcl, nl, hdl⟩ := hl
        simp only at hcl hdl
        subst hcl; subst hdl
        have hol' : (s.heap.push ob).get? l = some { cls := .type "list", dict := odict, data := .seq items nl, slots := oslots } := Heap.get?_push_of_some _ hol
        have hl1 : (s.heap.push ob).IsList l items := ⟨_, hol', rfl, nl, rfl⟩
        have hsls := PySem.F.sub_list_set
        have hslf := PySem.F.sub_list_frozenset
        have hne : (Value.type "list" == Value.type "dict") = false := by decide
        have lt1 : l < s.heap.objs.size := Heap.lt_size hol
        have sz1 : (s.heap.push ob).objs.size = s.heap.objs.size + 1 := Heap.size_push ..
        have hne2 : l ≠ (s.heap.push ob).objs.size := by rw [sz1]; exact Nat.ne_of_lt (Nat.lt_succ_of_lt lt1)
        subst hset
        unfold Builtin.«set.__init__» noKeywords Builtin.Frozenset.updateFrom
        generalize hPI : pyIter = PI
        wp_walk
        subst hPI
        refine wpAny_pyIter_list hl1 ?_
        refine wpAny_bind (wpAny_runValue ?_)
        refine set_turns (xs := xs) ((Walks.list (by simp [hh]) _ l hne2 items).toS) ?_ (by have := hi.length; simpa using this.symm) hb (fun i v hv => ?_) items.size 0 _ (by omega) ⟨⟨_, Heap.get?_push_size _ rfl, rfl, rfl⟩, hl1.push _⟩ ?_ fun s' hm hS' => ?_
        · rw [sz1]
          simp only [List.mem_cons, List.not_mem_nil, or_false, not_or]
          exact ⟨Nat.ne_of_lt (Nat.lt_succ_self _), Nat.ne_of_gt lt1⟩
        · obtain ⟨t, e⟩ := SS.strs_at hi i v (by rw [Array.getElem?_toList]; exact hv)
          have hlt : i < xs.length := by
            have h1 := hi.length
            have h2 := (Array.getElem?_eq_some_iff.mp hv).1
            simp at h1
            omega
          exact ⟨xs[i], t, List.getElem?_eq_getElem hlt, by rw [e, List.getD_eq_getElem?_getD, List.getElem?_eq_getElem hlt]; rfl⟩
        · exact PyProof.Rows.SetOf_congr ((PyProof.Rows.setObjOf_fresh (knd := PySem.strKind prog w) led).setOf (Heap.get?_push_of_some _ hS) (by unfold scanBound; omega)) (fun _ => rfl) rfl
        · obtain ⟨h', g', d', tk', os'⟩ := s'
          obtain rfl : g' = s.gens := hm.gens
          obtain rfl : d' = s.drawn := hm.drawn
          obtain rfl : os' = s.os := hm.os
          show wpAny _ _ _ _ _ _
          refine wpAny_pure ?_
          show wpAny _ _ (ret Value.none) _ _ _
          refine wpAny_pure ⟨rfl, h', tk', rfl, hS', fun b o hb e => hm.heap b o ?_ (Heap.get?_push_of_some _ (Heap.get?_push_of_some _ e))⟩
          rw [sz1]
          simp only [List.mem_cons, List.not_mem_nil, or_false, not_or]
          exact ⟨Nat.ne_of_lt hb, Nat.ne_of_lt (Nat.lt_succ_of_lt hb)⟩
      · cases r₂ with
        | error e => exact hr₂
        | ok fl₂ =>
          cases fl₂ with
          | ret r =>
            obtain ⟨rfl, h', tk, rfl, hS', hk'⟩ := hr₂
            repeat (any_goals (first | assumption | wp_step))
            exact h _ _ hS' hk'
          | _ => exact hr₂.elim
    | _ => exact hr.elim
end
end MPS


set_option Elab.async false
set_option linter.all false
set_option maxRecDepth 100000
set_option autoImplicit false
set_option maxHeartbeats 4000000
/-! S11: every expression does what its code says. -/
namespace MPS
open PySem PySem.Spec PyProof.Rows L2 MP
/-- a block's context and its static part -/
structure XS (S : SC) (X : Cx) : Prop where
  N : X.N = S.N
  nd : S.N.Nodup
  esc : X.env.scope = S.esc
  own : ∀ x, S.own x = true → X.fn x = true
/-- what is known of the module -/
structure GOk (Sg : Sig) (P : Prog) (call : MP.Call) (ca : Str → Addr) (j : Nat) (X : Cx) : Prop where
  calm : X.calm = true
  room : Room j X.A
  ar : Arity P call
  fn : ∀ x d, P.fn (x, none) = some d → C8.Cal X.prog X.w X.K X.mg X.base j x (spOf X.K X.w ca call (x, none) d.ps) []
  met : MetOk P call ca X j
  mak : ∀ x d, P.fn (x, some "__init__") = some d → (∃ k, k + 1 ≤ j ∧ C8.Mak X.prog X.w X.K X.mg X.base k x (ca x) (spOf X.K X.w ca call (x, some "__init__") d.ps) []) ∨ ∀ ws st, call (x, some "__init__") ws st = .bad
  glo : ∀ x y, lookS P.glos x = some y → ∃ u v, X.mg x = some u ∧ RelV v u ∧ (∀ μ H, RepV X.K X.w μ H y v) ∧ ∀ l, y = .tup l → ∃ q o, v = .ref q ∧ X.K.lookup q = some o ∧ o.cls = .type "tuple" ∧ o.dict = none
  flds : FldsOk P X.K ca
  free : ∀ x, Sg.free.contains x = true → X.mg x = none
  keys : ∀ f, Sg.has f = true → ∃ d, P.fn f = some d
theorem GOk.hu {Sg : Sig} {P : Prog} {call : MP.Call} {ca : Str → Addr} {j : Nat} {X : Cx} (g : GOk Sg P call ca j X) : X.A.units + 100 < cLine := by
  have := g.room.un
  omega
theorem bop_inv {o : Operator} {b : BOp} (h : bopOf o = some b) : o = bopO b := by
  cases o <;> simp [bopOf] at h <;> (subst h; rfl)
theorem cop_inv {o : CmpOp} {b : COp} (h : copOf o = some b) : o = copO b := by
  cases o <;> simp [copOf] at h <;> (subst h; rfl)
theorem bmt_inv {m : Str} {n : Nat} {b : Bmt} (h : bmtOf m n = some b) : m = bmtN b := by
  unfold bmtOf at h
  repeat' split at h
  all_goals first
    | (cases h; done)
    | (cases h; assumption)
theorem nst {es : List PySem.Expr} (h : es.all nStar = true) : NoStars es := fun e he x p z => by
  subst z
  have := List.all_eq_true.mp h _ he
  cases this
theorem nst1 {e : PySem.Expr} (h : nStar e = true) (x : PySem.Expr) (p : Pos) : e ≠ .Starred x p := fun z => by
  subst z; cases h
section
variable {S : SC} {X : Cx} {x : Str}
theorem XS.gl (xs : XS S X) (h : glb S x = true) : Gl X x := by
  unfold glb at h
  show X.env.scope.names.lookup x = _
  rw [xs.esc]
  split at h
  · assumption
  · cases h
theorem XS.vis (xs : XS S X) (h : MP.vis S x = true) : Vis X.env.scope x := by
  unfold MP.vis at h
  rw [xs.esc]
  split at h
  · rename_i e; exact .inl e
  · rename_i e; exact .inr (.inl e)
  · rename_i e; exact .inr (.inr e)
  · cases h
theorem XS.sto (xs : XS S X) (h : MP.sto S x = true) : Loc X.env.scope x ∧ (X.fn x = true ∨ X.env.scope.names.lookup x = some .local) := by
  unfold MP.sto at h
  rw [xs.esc]
  split at h
  · rename_i e; exact ⟨.inl e, .inr e⟩
  · rename_i e; exact ⟨.inr e, .inl (xs.own x h)⟩
  · cases h
theorem XS.ix (xs : XS S X) {i : Nat} (h : idx8 x S.N = some i) : X.N[i]? = some x := by rw [xs.N]; exact (idx8_ok x h).1
theorem okN_inv (h : okN x = true) : (x == ("__debug__" : Str)) = false ∧ (x == ("__classdict__" : Str)) = false := by
  unfold okN at h
  simp only [Bool.and_eq_true, Bool.not_eq_true'] at h
  exact ⟨h.1.1, h.1.2⟩
end
section
variable (Sg : Sig) (P : Prog) (call : MP.Call) (ca : Str → Addr) (j : Nat)
structure AllOk (n : Nat) : Prop where
  e : ∀ S X, XS S X → GOk Sg P call ca j X → ∀ e, EX X ca P call e (trE Sg n S e) ∧ TX X ca P call e (trE Sg n S e) ∧ ∀ op vs p, e = .BoolOp op vs p → WX X ca P call e (trE Sg n S e)
  a : ∀ S X, XS S X → GOk Sg P call ca j X → ∀ es, NoStars es → AX X ca P call es (trEs Sg n S es)
  d : ∀ S X, XS S X → GOk Sg P call ca j X → ∀ pos ks vs, ks.all (·.isSome) = true → ks.length = vs.length → DX X ca P call pos ks vs (trPs Sg n S ks vs) ∧ (ks = [] → trPs Sg n S ks vs = .nil ∨ ∃ r, trPs Sg n S ks vs = .cons bdE bdE r)
  o : ∀ S X, XS S X → GOk Sg P call ca j X → ∀ o, PO X o (tOp' X.K X.w ca P call (trO Sg n S o))
  c : ∀ S X, XS S X → GOk Sg P call ca j X → ∀ l, CoX X ca P call l (trC Sg n S l)
  i : ∀ S X, XS S X → GOk Sg P call ca j X → ∀ tg e, IX X ca P call tg e (trI Sg n S tg e)
  g : ∀ S X, XS S X → GOk Sg P call ca j X → ∀ t, GX X ca P call t (trG Sg n S t)
  gs : ∀ S X, XS S X → GOk Sg P call ca j X → ∀ ts, NoStars ts → GsX X ca P call ts (trGs Sg n S ts)
end
section
variable {Sg : Sig} {P : Prog} {call : MP.Call} {ca : Str → Addr} {j n : Nat}
theorem o_bad {X : Cx} {o : Option PySem.Expr} : PO X o (tOp' X.K X.w ca P call (.some bdE)) := ⟨fun pins s σ H Q I ⟨μ, st, ρ, _, _, h⟩ => h.elim⟩
theorem c_bad {X : Cx} {l : List PySem.Expr} : CoX X ca P call l (.some bdE) := ⟨fun pins s σ H Q I ⟨μ, st, ρ, _, _, h⟩ => h.elim⟩
theorem i_bad {X : Cx} {tg e : PySem.Expr} : IX X ca P call tg e (.seq bdE) := ⟨fun pins s σ H Q I ⟨μ, st, ρ, _, _, h⟩ => h.elim⟩
theorem w_bad {X : Cx} {a : PySem.Expr} : WX X ca P call a bdE := ⟨fun wh pins s σ H Q I ⟨μ, st, ρ, _, _, h⟩ => h.elim⟩
theorem all_bad {X : Cx} {a : PySem.Expr} : EX X ca P call a bdE ∧ TX X ca P call a bdE ∧ ∀ op vs p, a = .BoolOp op vs p → WX X ca P call a bdE := ⟨e_bad, t_bad, fun _ _ _ _ => w_bad⟩
theorem all_zero : AllOk Sg P call ca j 0 where
  e S X xs g e := all_bad
  a S X xs g es ns := a_bad
  d S X xs g pos ks vs hall hl := ⟨d_bad hl hall, fun _ => .inr ⟨_, rfl⟩⟩
  o S X xs g o := o_bad
  c S X xs g l := c_bad
  i S X xs g tg e := i_bad
  g S X xs g t := g_bad
  gs S X xs g ts ns := gs_bad
/-- an expression that a test reads as a value -/
theorem val {X : Cx} {a : PySem.Expr} {A : Ex} (h : EX X ca P call a A) (he : ∀ whole, isTrue a X.env whole = (do let v ← whole; standAt a.pos; holding [v] (truthy v))) (nb : ∀ op vs p, a ≠ .BoolOp op vs p) :
    EX X ca P call a A ∧ TX X ca P call a A ∧ ∀ op vs p, a = .BoolOp op vs p → WX X ca P call a A := ⟨h, t_val h he, fun op vs p z => (nb op vs p z).elim⟩
theorem e_lenset {X : Cx} {A : Ex} {a : PySem.Expr} {p p2 q pos : Pos} (hc : X.calm = true) (hg : Gl X "len") (hm : X.mg "len" = none) (hg2 : Gl X "set") (hm2 : X.mg "set" = none) (na : ∀ x p, a ≠ .Starred x p) (ha : EX X ca P call a A) :
    EX X ca P call (.Call (.Name "len" p) [.Call (.Name "set" p2) [a] [] q] [] pos) (.blt .lenset (.cons A .nil)) := by
  refine ⟨fun pins s σ H Q I ⟨μ, st, ρ, R, E, h⟩ => ?_⟩
  have sa : starEach [a] X.env = (false, eval a X.env) :: starEach [] X.env := star_ok na
  refine PyProof.Rows.Call_ (ld_blt I hg hm boot_len ?_)
  refine PyProof.Rows.callWith_builtin1 (PyProof.Rows.args_cons ?_ rfl) rfl rfl
  refine PyProof.Rows.Call_ (ld_blt I hg2 hm2 boot_set ?_)
  refine PyProof.Rows.callWith_type1 (PyProof.Rows.args_cons (thn (ha.run pins s σ H (fun x H1 => ∃ μ1 s1 n l xs, Rep X.K X.w ca μ1 H1 s1 ∧ RepV X.K X.w μ1 H1 (.ref n) x ∧ s1[n]? = some (.lst l) ∧ allStrs l = some xs ∧ xs.length < 4000 ∧ Q (.int (dl xs).length) H1) I ⟨μ, st, ρ, R, E, ?_⟩) fun v s1 ⟨x, H1, I1, r1, q1⟩ => PyProof.Rows.args_nil ?_) sa) sa rfl
  · have h' : Post X.K X.w ca ((evE P call A ρ st).bind fun w st => bltW .lenset [w] st) μ H Q := by
      have h' := h
      simp only [evE, evEs, bind_assoc'] at h'
      exact h'
    refine PostG.bind h' fun μ1 s1 x v H1 e R1 r1 h1 => ?_
    cases x <;> first | exact h1.elim | skip
    rename_i n
    simp only [bltW] at h1
    split at h1
    · rename_i l el
      split at h1
      · rename_i xs ex
        split at h1
        · rename_i hl
          exact ⟨μ1, s1, n, l, xs, R1, r1, el, ex, hl, PostG.now h1 R1 rfl⟩
        · exact h1.elim
      · exact h1.elim
    · exact h1.elim
  · obtain ⟨μ1, st1, n, l, xs, R1, r2, el, ex, hl, hQ⟩ := q1
    obtain ⟨pa, rfl, hm'⟩ := r2
    cases r1
    obtain ⟨vs, hq, rv⟩ := R1.lst hm' el
    have ev := allStrs_ok ex rv
    subst ev
    obtain ⟨its, r, pl, hz⟩ := I1.list (.inl (.inl hq))
    have hlen : its.toArray.size = xs.length := by rw [List.size_toArray, ← r.length, List.length_map]
    refine set_of_list (xs := xs) (I1.ok.hd hc) pl.isList (by simpa using strsAre_of r) (by unfold scanBound; omega) fun h' tk hS hk => ?_
    refine PyProof.Rows.args_nil ?_
    have hd : (dl xs).length ≤ xs.length := by have h0 : (dl xs).length ≤ 0 + xs.length := dl_len xs []; omega
    have hS' := hS
    obtain ⟨o, es, ep, t, ho, hex, hdt, _, _, _, hf, hn⟩ := hS'
    rw [hlen, List.take_length] at hn
    have I2 : L2.Inv X pins σ H1 { s1 with heap := h', toks := tk } := I1.kept fun b o e => hk b o (Heap.lt_size e) e
    exact call_len_set ho hex hdt hf (by rw [hn] <;> omega) ⟨.int (dl xs).length, H1, I2.tok _, ⟨_, by rw [hn]⟩, hQ⟩
theorem no_blk {X : Cx} {S : SC} {sc : Scope} (g : GOk Sg P call ca j X) (xs : XS S X) (s : Shared) (H : Hp) (C : Addr) (cl : List (Str × Addr)) (fp : List Addr) :
    XS ⟨S.N, L2.relS sc S.esc, fun x => sc.names.lookup x == some .cell⟩ (X.blk s H sc (compEnvC sc cl C X.env) fp) ∧ GOk Sg P call ca j (X.blk s H sc (compEnvC sc cl C X.env) fp) :=
  ⟨⟨xs.N, xs.nd, by show relS sc X.env.scope = _; rw [xs.esc], fun x h => h⟩, ⟨g.calm, g.room, g.ar, g.fn, g.met, g.mak, g.glo, g.flds, g.free, g.keys⟩⟩
theorem iter_set {X : Cx} {iter : PySem.Expr} (h : nSet iter = true) (x : Value) : foldedSetIterable iter X.env x = pure x := by
  cases iter <;> first | rfl | (cases h)
theorem i_set {S : SC} {tg iter : PySem.Expr} (h : nSet iter = false) : trI Sg n S tg iter = .seq bdE := by
  cases n with
  | zero => rfl
  | succ n => cases iter <;> first | rfl | (cases h)
end
end MPS


set_option Elab.async false
set_option linter.all false
set_option maxRecDepth 100000
set_option autoImplicit false
set_option maxHeartbeats 4000000
/-! S12: the step of the induction. -/
namespace MPS
open PySem PySem.Spec PyProof.Rows L2 MP
section
variable {Sg : Sig} {P : Prog} {call : MP.Call} {ca : Str → Addr} {j n : Nat}
theorem step_a (ih : AllOk Sg P call ca j n) {S : SC} {X : Cx} (xs : XS S X) (g : GOk Sg P call ca j X) : ∀ es, NoStars es → AX X ca P call es (trEs Sg (n + 1) S es)
  | [], _ => a_nil
  | e :: r, ns => a_cons (ns e List.mem_cons_self) (ih.e S X xs g e).1 (ih.a S X xs g r fun x hx => ns x (List.mem_cons_of_mem _ hx))
theorem step_d (ih : AllOk Sg P call ca j n) {S : SC} {X : Cx} (xs : XS S X) (g : GOk Sg P call ca j X) (pos : Pos) : ∀ ks vs, ks.all (·.isSome) = true → ks.length = vs.length → DX X ca P call pos ks vs (trPs Sg (n + 1) S ks vs) ∧ (ks = [] → trPs Sg (n + 1) S ks vs = .nil ∨ ∃ r, trPs Sg (n + 1) S ks vs = .cons bdE bdE r)
  | [], [], _, _ => ⟨d_nil, fun _ => .inl rfl⟩
  | [], _ :: _, _, h => by cases h
  | _ :: _, [], _, h => by cases h
  | some k :: ks, v :: vs, hall, h => ⟨d_cons (ih.e S X xs g k).1 (ih.e S X xs g v).1 (ih.d S X xs g pos ks vs (by simpa using hall) (by simpa using h)).1, fun z => by cases z⟩
  | none :: ks, v :: vs, hall, h => by simp at hall
theorem step_o (ih : AllOk Sg P call ca j n) {S : SC} {X : Cx} (xs : XS S X) (g : GOk Sg P call ca j X) : ∀ o, PO X o (tOp' X.K X.w ca P call (trO Sg (n + 1) S o))
  | none => o_none
  | some e => o_some (ih.e S X xs g e).1
theorem step_c (ih : AllOk Sg P call ca j n) {S : SC} {X : Cx} (xs : XS S X) (g : GOk Sg P call ca j X) : ∀ l, CoX X ca P call l (trC Sg (n + 1) S l)
  | [] => c_none
  | [e] => c_some (ih.e S X xs g e).2.1
  | _ :: _ :: _ => c_bad
theorem free_in {x : Str} {X : Cx} (g : GOk Sg P call ca j X) (h : Sg.free.contains x = true) : X.mg x = none := g.free x h
theorem step_i (ih : AllOk Sg P call ca j n) {S : SC} {X : Cx} (xs : XS S X) (g : GOk Sg P call ca j X) (tg e : PySem.Expr) : IX X ca P call tg e (trI Sg (n + 1) S tg e) := by
  unfold trI
  split
  · rename_i x p1 es kws p2
    split
    · rename_i hc
      simp only [Bool.and_eq_true] at hc
      obtain ⟨⟨⟨⟨hk, hx⟩, hg⟩, hf⟩, hst⟩ := hc
      have hk : kws = [] := by simpa using hk
      subst hk
      split
      · rename_i hr
        subst hr
        split
        · rename_i a
          exact i_range1 (xs.gl hg) (free_in g hf) (nst hst _ List.mem_cons_self) (ih.e S X xs g a).1
        · rename_i a b
          exact i_range2 (xs.gl hg) (free_in g hf) (nst hst _ List.mem_cons_self) (nst hst _ (by simp)) (ih.e S X xs g a).1 (ih.e S X xs g b).1
        · exact i_bad
      · split
        · rename_i hr
          simp only [Bool.and_eq_true, decide_eq_true_eq, Bool.not_eq_true'] at hr
          obtain ⟨hr, ht⟩ := hr
          subst hr
          cases tg <;> first | (cases ht; done) | skip
          split
          · rename_i a
            exact i_enum (xs.gl hg) (free_in g hf) (nst hst _ List.mem_cons_self) (ih.e S X xs g a).1
          · exact i_bad
        · split
          · rename_i hr
            simp only [Bool.and_eq_true, decide_eq_true_eq, Bool.not_eq_true'] at hr
            obtain ⟨hr, ht⟩ := hr
            subst hr
            cases tg <;> first | (cases ht; done) | skip
            split
            · rename_i a b
              exact i_zip (xs.gl hg) (free_in g hf) (nst hst _ List.mem_cons_self) (nst hst _ (by simp)) (ih.e S X xs g a).1 (ih.e S X xs g b).1
            · exact i_bad
          · exact i_seq (ih.e S X xs g _).1
    · exact i_seq (ih.e S X xs g _).1
  · split
    · exact i_seq (ih.e S X xs g _).1
    · exact i_bad
theorem step_gs (ih : AllOk Sg P call ca j n) {S : SC} {X : Cx} (xs : XS S X) (g : GOk Sg P call ca j X) : ∀ ts, NoStars ts → GsX X ca P call ts (trGs Sg (n + 1) S ts)
  | [], _ => gs_nil
  | t :: r, ns => gs_cons (ns t List.mem_cons_self) (ih.g S X xs g t) (ih.gs S X xs g r fun x hx => ns x (List.mem_cons_of_mem _ hx))
theorem step_g (ih : AllOk Sg P call ca j n) {S : SC} {X : Cx} (xs : XS S X) (g : GOk Sg P call ca j X) (t : PySem.Expr) : GX X ca P call t (trG Sg (n + 1) S t) := by
  unfold trG
  split
  · rename_i x p
    split
    · rename_i hs
      obtain ⟨h1, h2⟩ := xs.sto hs
      split
      · rename_i i hi
        exact g_name (by rw [xs.N]; exact xs.nd) (xs.ix hi) h1 h2
      · exact g_bad
    · exact g_bad
  · split
    · exact g_fld g.flds (ih.e S X xs g _).1
    · exact g_bad
  · split
    · rename_i hs
      exact g_sub g.hu (ih.e S X xs g _).1 (ih.e S X xs g _).1 hs
    · exact g_bad
  · split
    · rename_i hs
      exact g_tup g.calm (nst hs) (ih.gs S X xs g _ (nst hs))
    · exact g_bad
  · exact g_bad
end
end MPS


set_option Elab.async false
set_option linter.all false
set_option maxRecDepth 100000
set_option autoImplicit false
set_option maxHeartbeats 4000000
/-! S13: the step for expressions. -/
namespace MPS
open PySem PySem.Spec PyProof.Rows L2 MP
section
variable {Sg : Sig} {P : Prog} {call : MP.Call} {ca : Str → Addr} {j n : Nat}
abbrev OK3 (X : Cx) (ca : Str → Addr) (P : Prog) (call : MP.Call) (a : PySem.Expr) (A : Ex) : Prop := EX X ca P call a A ∧ TX X ca P call a A ∧ ∀ op vs p, a = .BoolOp op vs p → WX X ca P call a A
theorem e_lc {S : SC} {X : Cx} (ih : AllOk Sg P call ca j n) (xs : XS S X) (g : GOk Sg P call ca j X) (elt tg iter : PySem.Expr) (ifs : List PySem.Expr) (sc : Scope) (pos : Pos) (hb : blkC S.N S.esc sc (ownOf S.N sc) = true)
    (hix : ∀ i ∈ tgIx (trG Sg n ⟨S.N, L2.relS sc S.esc, fun x => sc.names.lookup x == some .cell⟩ tg), i ∈ (ownOf S.N sc).map (·.2)) :
    (nSet iter = true → PE X (.ListComp elt [⟨tg, iter, ifs, 0⟩] sc pos) (tLc (tIt X.K X.w ca P call (trI Sg n S tg iter)) (tGt X.K X.w ca P call (trG Sg n ⟨S.N, L2.relS sc S.esc, fun x => sc.names.lookup x == some .cell⟩ tg)) (tCo X.K X.w ca P call (trC Sg n ⟨S.N, L2.relS sc S.esc, fun x => sc.names.lookup x == some .cell⟩ ifs))
      (tE X.K X.w ca P call (trE Sg n ⟨S.N, L2.relS sc S.esc, fun x => sc.names.lookup x == some .cell⟩ elt)) ((ownOf S.N sc).map (·.2)))) ∧ BlkOk X.N X.env.scope sc (ownOf S.N sc) := by
  have ok : BlkOk X.N X.env.scope sc (ownOf S.N sc) := by rw [xs.N, xs.esc]; exact blkOk_by hb
  refine ⟨fun hs => pe_lc g.calm (by rw [xs.N]; exact xs.nd) (ih.i S X xs g tg iter) ok (fun s H C cl fp => ?_) (fun s H C cl fp => ?_) (fun s H C cl fp => ?_) (iter_set hs), ok⟩
  · obtain ⟨x1, g1⟩ := no_blk g xs s H C cl fp (sc := sc)
    exact ih.g _ _ x1 g1 tg
  · obtain ⟨x1, g1⟩ := no_blk g xs s H C cl fp (sc := sc)
    exact ih.c _ _ x1 g1 ifs
  · obtain ⟨x1, g1⟩ := no_blk g xs s H C cl fp (sc := sc)
    exact (ih.e _ _ x1 g1 elt).1
theorem step_call (ih : AllOk Sg P call ca j n) {S : SC} {X : Cx} (xs : XS S X) (g : GOk Sg P call ca j X) (f : PySem.Expr) (es : List PySem.Expr) (kws : List Keyword) (p : Pos) : EX X ca P call (.Call f es kws p) (trE Sg (n + 1) S (.Call f es kws p)) := by
  have hE := fun e => (ih.e S X xs g e).1
  have hAs := fun es => ih.a S X xs g es
  unfold trE
  dsimp only
  split
  · rename_i hk
    rw [Bool.and_eq_true] at hk
    obtain ⟨hk, hst⟩ := hk
    have hk : kws = [] := by simpa using hk
    subst hk
    have ns := nst hst
    split
    · rename_i x p1
      split
      · rename_i hx
        rw [Bool.and_eq_true] at hx
        obtain ⟨hok, hg⟩ := hx
        obtain ⟨hd, hcd⟩ := okN_inv hok
        have gl := xs.gl hg
        split
        · rename_i b hb
          split
          · exact e_bad
          · rename_i hf
            have hf : Sg.free.contains x = true := by simpa using hf
            split
            · rename_i y a hl
              unfold lenSet at hl
              split at hl
              · rename_i y' p2 a' q
                cases hl
                split
                · rename_i hc
                  simp only [Bool.and_eq_true, decide_eq_true_eq] at hc
                  obtain ⟨⟨⟨rfl, h2⟩, h3⟩, h4⟩ := hc
                  have hx : x = "len" := by
                    unfold bltOf at hb
                    split at hb
                    · assumption
                    · repeat' split at hb
                      all_goals cases hb
                  subst hx
                  exact e_lenset g.calm gl (g.free _ hf) (xs.gl h2) (g.free _ h3) (nst1 h4) (hE _)
                · exact e_bad
              · cases hl
            · cases es with
              | nil => exact e_bad
              | cons e r => exact e_blt g.calm hb gl (g.free _ hf) ns (hAs _ ns)
        · split
          · rename_i hi
            subst hi
            split
            · rename_i a c p2
              split
              · rename_i k hk
                split
                · rename_i hc
                  simp only [Bool.and_eq_true] at hc
                  exact e_isi hk gl (g.free _ hc.2) (xs.gl hc.1.1) (g.free _ hc.1.2) (ns _ List.mem_cons_self) (hE _)
                · exact e_bad
              · exact e_bad
            · exact e_bad
          · split
            · rename_i hm
              obtain ⟨d, hd'⟩ := g.keys _ hm
              rcases g.mak x d hd' with ⟨k, hk, M⟩ | hb
              · cases es with
                | nil =>
                  cases n with
                  | zero => exact pe_no fun σ H Q ⟨μ, st, ρ, R, E, h⟩ => h
                  | succ n => exact e_mak0 g.ar hd' M g.room hk gl hd
                | cons e r => exact e_mak g.ar hd' M g.room hk gl ns (hAs _ ns) hd
              · exact pe_no fun σ H Q ⟨μ, st, ρ, R, E, h⟩ => no_bind (fun ws s => by rw [hb]; rfl) h
            · split
              · rename_i hm
                obtain ⟨d, hd'⟩ := g.keys _ hm
                cases es with
                | nil =>
                  cases n with
                  | zero => exact pe_no fun σ H Q ⟨μ, st, ρ, R, E, h⟩ => h
                  | succ n => exact e_call0 g.ar hd' (g.fn x d hd') g.room (Nat.le_refl _) gl hd
                | cons e r => exact e_call g.ar hd' (g.fn x d hd') g.room (Nat.le_refl _) gl ns (hAs _ ns) hd
              · exact e_bad
      · exact e_bad
    · rename_i o m ap
      split
      · rename_i hc
        simp only [Bool.and_eq_true, decide_eq_true_eq] at hc
        obtain ⟨⟨hs, hl⟩, hfew⟩ := hc
        have hline : (ap.endLine == p.line) = true := beq_iff_eq.mpr hl
        split
        · rename_i b hb
          have hm := bmt_inv hb
          subst hm
          split
          · rename_i y a hy
            unfold gixOf at hy
            split at hy
            · rename_i y' p1 a'
              split at hy
              · rename_i h2
                cases hy
                rw [Bool.and_eq_true] at h2
                cases hl' : lookS P.glos y with
                | none => exact pe_no fun σ H Q ⟨μ, st, ρ, R, E, h⟩ => no_bind (fun ws s => by rw [hl']) h
                | some w =>
                  obtain ⟨u, v, h3, h4, h5, h6⟩ := g.glo y w hl'
                  exact e_gix (xs.gl h2.2) h3 h4 h5 hl' h6 (okN_inv h2.1).1 hline ns (hE _)
              · cases hy
            · cases hy
          · cases es with
            | nil =>
              cases n with
              | zero => exact pe_no fun σ H Q ⟨μ, st, ρ, R, E, h⟩ => no_bind (fun ws s => rfl) h
              | succ n => exact e_bmt0 g.hu hs hline (hE _)
            | cons e r => exact e_bmt g.hu hs hline ns hfew (hE _) (hAs _ ns)
        · cases es with
          | nil =>
            cases n with
            | zero => exact pe_no fun σ H Q ⟨μ, st, ρ, R, E, h⟩ => no_bind (fun x s => by
                cases x <;> first | rfl | skip
                dsimp only
                split
                · split <;> rfl
                · rfl) h
            | succ n => exact e_mth0 g.ar g.met g.room (Nat.le_refl _) hs hline (hE _)
          | cons e r => exact e_mth g.ar g.met g.room (Nat.le_refl _) hs hline ns hfew (hE _) (hAs _ ns)
      · exact e_bad
    · exact e_bad
  · exact e_bad
theorem step_sub (ih : AllOk Sg P call ca j n) {S : SC} {X : Cx} (xs : XS S X) (g : GOk Sg P call ca j X) (a b : PySem.Expr) (p : Pos) : EX X ca P call (.Subscript a b p) (trE Sg (n + 1) S (.Subscript a b p)) := by
  have hE := fun e => (ih.e S X xs g e).1
  unfold trE
  dsimp only
  split
  · exact e_sl (hE _) (ih.o S X xs g _) (ih.o S X xs g _)
  · split
    · rename_i hi
      subst hi
      exact e_rev (hE _)
    · exact e_bad
  · split
    · rename_i hs
      exact e_ix g.hu (hE _) (hE _) hs
    · exact e_bad
theorem step_lc (ih : AllOk Sg P call ca j n) {S : SC} {X : Cx} (xs : XS S X) (g : GOk Sg P call ca j X) (elt : PySem.Expr) (gens : List Comprehension) (sc : Scope) (p : Pos) : EX X ca P call (.ListComp elt gens sc p) (trE Sg (n + 1) S (.ListComp elt gens sc p)) := by
  unfold trE
  dsimp only
  split
  · rename_i gg
    split
    · rename_i hc
      rw [Bool.and_eq_true, decide_eq_true_eq] at hc
      split
      · rename_i hix
        obtain ⟨tg, iter, ifs, as⟩ := gg
        obtain ⟨rfl, hb⟩ := hc
        have hix' : ∀ i ∈ tgIx (trG Sg n ⟨S.N, L2.relS sc S.esc, fun x => sc.names.lookup x == some .cell⟩ tg), i ∈ (ownOf S.N sc).map (·.2) := fun i hi => by
          have := List.all_eq_true.mp hix i hi
          simpa using this
        obtain ⟨h1, h2⟩ := e_lc ih xs g elt tg iter ifs sc p hb hix'
        cases hs : nSet iter with
        | false =>
          refine pe_no fun σ H Q ⟨μ, st, ρ, R, E, h⟩ => ?_
          simp only [evE, i_set hs] at h
          exact h
        | true => exact (h1 hs).imp fun σ H Q ⟨μ, st, ρ, R, E, h⟩ => lc_b hix' R E h
      · exact e_bad
    · exact e_bad
  · exact e_bad
theorem step_e (ih : AllOk Sg P call ca j n) {S : SC} {X : Cx} (xs : XS S X) (g : GOk Sg P call ca j X) (e : PySem.Expr) : OK3 X ca P call e (trE Sg (n + 1) S e) := by
  have hE := fun e => (ih.e S X xs g e).1
  have hT := fun e => (ih.e S X xs g e).2.1
  cases e with
  | Constant c k p =>
    cases c with
    | none => exact val (e_cst (fun _ _ => rfl) pe_non) (fun _ => rfl) (fun _ _ _ z => by cases z)
    | bool b => exact val (e_cst (fun _ _ => rfl) pe_bl) (fun _ => rfl) (fun _ _ _ z => by cases z)
    | int b => exact val (e_cst (fun _ _ => rfl) pe_int) (fun _ => rfl) (fun _ _ _ z => by cases z)
    | str b => exact val (e_cst (fun _ _ => rfl) pe_str) (fun _ => rfl) (fun _ _ _ z => by cases z)
    | _ => exact all_bad
  | Name x p =>
    refine val ?_ (fun _ => rfl) (fun _ _ _ z => by cases z)
    unfold trE
    dsimp only
    split
    · rename_i hok
      obtain ⟨h1, h2⟩ := okN_inv hok
      split
      · rename_i hv
        split
        · rename_i i hi
          exact e_var (xs.ix hi) (xs.vis hv) h1 h2
        · exact e_bad
      · split
        · rename_i hg
          cases hl : lookS P.glos x with
          | none => exact e_gloN hl
          | some w =>
            obtain ⟨u, v, h3, h4, h5, _⟩ := g.glo x w hl
            exact e_glo (xs.gl hg) h3 h4 h5 hl h1
        · exact e_bad
    · exact e_bad
  | Tuple es k p =>
    refine val ?_ (fun _ => rfl) (fun _ _ _ z => by cases z)
    unfold trE
    dsimp only
    split
    · rename_i h
      exact e_tup (ih.a S X xs g es (nst h))
    · exact e_bad
  | List es p =>
    refine val ?_ (fun _ => rfl) (fun _ _ _ z => by cases z)
    unfold trE
    dsimp only
    split
    · rename_i h
      exact e_lst (ih.a S X xs g es (nst h))
    · exact e_bad
  | Dict ks vs p =>
    refine val ?_ (fun _ => rfl) (fun _ _ _ z => by cases z)
    unfold trE
    dsimp only
    split
    · rename_i h
      simp only [Bool.and_eq_true, decide_eq_true_eq] at h
      obtain ⟨h1, h2⟩ := ih.d S X xs g p ks vs h.1.1 h.1.2
      exact e_dic h.1.1 h.1.2 h.2 h1 h2
    · exact e_bad
  | BinOp a op b p =>
    refine val ?_ (fun _ => rfl) (fun _ _ _ z => by cases z)
    unfold trE
    dsimp only
    split
    · rename_i o ho
      have := bop_inv ho
      subst this
      exact e_bin (hE _) (hE _)
    · exact e_bad
  | UnaryOp op a p =>
    cases op with
    | USub => exact val (e_neg (hE _)) (fun _ => rfl) (fun _ _ _ z => by cases z)
    | Not => exact ⟨e_not (hE _), t_not (hT _), fun _ _ _ z => by cases z⟩
    | _ => exact all_bad
  | BoolOp op vs p =>
    cases vs with
    | nil => exact all_bad
    | cons a r =>
      cases r with
      | nil =>
        have hw : WX X ca P call (.BoolOp op [a] p) (trE Sg n S a) := by
          cases op with
          | And => exact pw_and1 (hT a)
          | Or => exact pw_or1 (hT a)
        exact ⟨pe_one (hE a), hw.pt, fun _ _ _ _ => hw⟩
      | cons b r =>
        cases op with
        | And =>
          have hw : WX X ca P call (.BoolOp .And (a :: b :: r) p) (.and (trE Sg n S a) (trE Sg n S (.BoolOp .And (b :: r) p))) := w_and (hT a) ((ih.e S X xs g _).2.2 _ _ _ rfl)
          exact ⟨e_and (hE a) (hE _), hw.pt, fun _ _ _ _ => hw⟩
        | Or =>
          have hw : WX X ca P call (.BoolOp .Or (a :: b :: r) p) (.or (trE Sg n S a) (trE Sg n S (.BoolOp .Or (b :: r) p))) := w_or (hT a) ((ih.e S X xs g _).2.2 _ _ _ rfl)
          exact ⟨e_or (hE a) (hE _), hw.pt, fun _ _ _ _ => hw⟩
  | Compare a ops bs p =>
    unfold trE
    dsimp only
    split
    · rename_i o b
      split
      · rename_i o' ho
        have := cop_inv ho
        subst this
        split
        · rename_i hs
          exact ⟨e_cmp g.hu (hE _) (hE _) hs, t_cmp g.hu (hE _) (hE _) hs, fun _ _ _ z => by cases z⟩
        · exact all_bad
      · exact all_bad
    · rename_i o1 o2 b c
      split
      · rename_i o1' o2' h1 h2
        have := cop_inv h1
        subst this
        have := cop_inv h2
        subst this
        split
        · rename_i hs
          exact ⟨e_chn g.hu (hE _) (hE _) (hE _) hs, t_chn g.hu (hE _) (hE _) (hE _) hs, fun _ _ _ z => by cases z⟩
        · exact all_bad
      · exact all_bad
    · exact all_bad
  | IfExp c a b p => exact ⟨e_if (hT _) (hE _) (hE _), t_if (hT _) (hT _) (hT _), fun _ _ _ z => by cases z⟩
  | Subscript a b p => exact val (step_sub ih xs g a b p) (fun _ => rfl) (fun _ _ _ z => by cases z)
  | Attribute a f p =>
    refine val ?_ (fun _ => rfl) (fun _ _ _ z => by cases z)
    unfold trE
    dsimp only
    split
    · rename_i hs
      exact e_fld g.flds (hE _) hs
    · exact e_bad
  | Call f es kws p => exact val (step_call ih xs g f es kws p) (fun _ => rfl) (fun _ _ _ z => by cases z)
  | ListComp elt gens sc p => exact val (step_lc ih xs g elt gens sc p) (fun _ => rfl) (fun _ _ _ z => by cases z)
  | _ => exact all_bad
theorem all_ok : ∀ n, AllOk Sg P call ca j n
  | 0 => all_zero
  | n + 1 =>
    have ih := all_ok n
    { e := fun S X xs g e => step_e ih xs g e
      a := fun S X xs g es ns => step_a ih xs g es ns
      d := fun S X xs g pos ks vs h1 h2 => step_d ih xs g pos ks vs h1 h2
      o := fun S X xs g o => step_o ih xs g o
      c := fun S X xs g l => step_c ih xs g l
      i := fun S X xs g tg e => step_i ih xs g tg e
      g := fun S X xs g t => step_g ih xs g t
      gs := fun S X xs g ts ns => step_gs ih xs g ts ns }
end
end MPS


set_option Elab.async false
set_option linter.all false
set_option maxRecDepth 100000
set_option autoImplicit false
set_option maxHeartbeats 4000000
/-! S14: statements. -/
namespace MPS
open PySem PySem.Spec PyProof.Rows L2 MP
section
variable (K : PySem.W.Frag) (w : World) (ca : Str → Addr) (Sg : Sig) (P : Prog) (call : MP.Call)
/-- what is wanted behind a statement that comes to r -/
def PostS (r : RS) (μ : List Addr) (H : Hp) (D : Ends) : Prop := match r with
  | .nx ρ st => ∀ μ' σ' H', Ext μ H μ' H' → Rep K w ca μ' H' st → RepE K w μ' H' ρ σ' → D.nx σ' H'
  | .ret a st => ∀ μ' v H', Ext μ H μ' H' → Rep K w ca μ' H' st → RepV K w μ' H' a v → D.rt v H'
  | .exc _ _ => False
  | .bad => False
def tSt (s : Sm) : TS := fun D σ H => ∃ μ st ρ, Rep K w ca μ H st ∧ RepE K w μ H ρ σ ∧ PostS K w ca (evS P call s ρ st) μ H D
def tSts (s : Sms) : TS := fun D σ H => ∃ μ st ρ, Rep K w ca μ H st ∧ RepE K w μ H ρ σ ∧ PostS K w ca (evB P call s ρ st) μ H D
end
section
variable {K : PySem.W.Frag} {w : World} {ca : Str → Addr} {μ μ0 μ1 : List Addr} {H H0 H1 : Hp} {st : Store} {α β : Type} {rep : List Addr → Hp → α → β → Prop}
theorem PostS.shift {r : RS} {D : Ends} (e : Ext μ H μ1 H1) (h : PostS K w ca r μ H D) : PostS K w ca r μ1 H1 D := by
  cases r with
  | nx ρ s => exact fun μ' v H' e2 R r => h μ' v H' (e.trans e2) R r
  | ret a s => exact fun μ' v H' e2 R r => h μ' v H' (e.trans e2) R r
  | exc x s => exact h
  | bad => exact h
/-- a value first, then a statement -/
theorem PostS.val {r : R α} {f : α → Store → RS} {D : Ends} {Q' : β → Hp → Prop} (h : PostS K w ca (r.bindS f) μ H D)
    (k : ∀ μ1 s1 a v H1, Ext μ H μ1 H1 → Rep K w ca μ1 H1 s1 → rep μ1 H1 a v → PostS K w ca (f a s1) μ1 H1 D → Q' v H1) : PostG K w ca rep r μ H Q' := by
  cases r with
  | ok a s => exact fun μ1 v H1 e R r => k μ1 s a v H1 e R r (PostS.shift e h)
  | exc x s => exact h
  | bad => exact h
/-- two statements -/
theorem PostS.bind {r : RS} {f : MP.Env → Store → RS} {D : Ends} {N : L2.St → Hp → Prop} {bk ct : L2.St → Hp → Prop} (h : PostS K w ca (r.bind f) μ H D)
    (k : ∀ μ1 s1 ρ1 σ1 H1, Ext μ H μ1 H1 → Rep K w ca μ1 H1 s1 → RepE K w μ1 H1 ρ1 σ1 → PostS K w ca (f ρ1 s1) μ1 H1 D → N σ1 H1) : PostS K w ca r μ H { nx := N, rt := D.rt, bk := bk, ct := ct } := by
  cases r with
  | nx ρ s => exact fun μ1 σ1 H1 e R r => k μ1 s ρ σ1 H1 e R r (PostS.shift e h)
  | ret a s => exact h
  | exc x s => exact h
  | bad => exact h
end
section
variable {X : Cx} {ca : Str → Addr} {Sg : Sig} {P : Prog} {call : MP.Call} {a b c e t : PySem.Expr} {A B C : Ex} {T : Tg} {pos p : Pos}
abbrev SX (X : Cx) (ca : Str → Addr) (P : Prog) (call : MP.Call) (s : PySem.Stmt) (T : Sm) : Prop := PS X s (tSt X.K X.w ca P call T)
abbrev SsX (X : Cx) (ca : Str → Addr) (P : Prog) (call : MP.Call) (s : List PySem.Stmt) (T : Sms) : Prop := PSs X s (tSts X.K X.w ca P call T)
theorem s_bad {s : PySem.Stmt} : SX X ca P call s bdS := ⟨fun pins s σ H D I ⟨μ, st, ρ, _, _, h⟩ => h.elim⟩
theorem s_pass : SX X ca P call (.Pass pos) .pass := ps_pass.imp fun D σ H ⟨μ, st, ρ, R, E, h⟩ => h μ σ H .refl R E
theorem s_retN : SX X ca P call (.Return none pos) .retN := ps_retN.imp fun D σ H ⟨μ, st, ρ, R, E, h⟩ => h μ .non H .refl R rfl
theorem s_ret (ha : EX X ca P call a A) : SX X ca P call (.Return (some a) pos) (.ret A) :=
  (ps_ret ha).imp fun D σ H ⟨μ, st, ρ, R, E, h⟩ => ⟨μ, st, ρ, R, E, PostS.val h fun μ1 s1 x v H1 e R1 r1 h1 => h1 μ1 v H1 .refl R1 r1⟩
theorem swap_no {o : Option PySem.Expr} {l : Nat} (h : nComp a = true) : swapsWith a o l X.env = pure false := by
  cases a <;> first | rfl | (cases h)
theorem s_exp (ha : EX X ca P call a A) (hn : nComp a = true) : SX X ca P call (.Expr a pos) (.exp A) :=
  (ps_expr ha (swap_no hn)).imp fun D σ H ⟨μ, st, ρ, R, E, h⟩ => ⟨μ, st, ρ, R, E, PostS.val h fun μ1 s1 x v H1 e R1 r1 h1 => h1 μ1 σ H1 .refl R1 (E.ext R e)⟩
theorem s_if {x y : List PySem.Stmt} {Y Z : Sms} (hc : TX X ca P call c C) (ha : SsX X ca P call x Y) (hb : SsX X ca P call y Z) : SX X ca P call (.If c x y pos) (.ite C Y Z) :=
  (ps_if hc ha hb).imp fun D σ H ⟨μ, st, ρ, R, E, h⟩ => ⟨μ, st, ρ, R, E, by
    simp only [evS] at h
    cases hx : evE P call C ρ st with
    | ok v s =>
      rw [hx] at h
      cases v <;> first | exact h.elim | skip
      rename_i k
      intro μ1 v H1 e R1 r1
      obtain rfl : k = v := r1
      cases k with
      | true => exact ⟨μ1, s, ρ, R1, E.ext R e, PostS.shift e h⟩
      | false => exact ⟨μ1, s, ρ, R1, E.ext R e, PostS.shift e h⟩
    | exc x s => rw [hx] at h; exact h
    | bad => rw [hx] at h; exact h⟩
theorem ss_nil : SsX X ca P call [] .nil := pss_nil.imp fun D σ H ⟨μ, st, ρ, R, E, h⟩ => h μ σ H .refl R E
theorem ss_bad {s : List PySem.Stmt} {Y : Sms} : SsX X ca P call s (.cons bdS Y) := ⟨fun pins s σ H D I ⟨μ, st, ρ, _, _, h⟩ => h.elim⟩
theorem ss_cons {s : PySem.Stmt} {r : List PySem.Stmt} {Y : Sm} {Z : Sms} (h1 : SX X ca P call s Y) (h2 : SsX X ca P call r Z) : SsX X ca P call (s :: r) (.cons Y Z) :=
  (pss_cons h1 h2).imp fun D σ H ⟨μ, st, ρ, R, E, h⟩ => ⟨μ, st, ρ, R, E, PostS.bind h fun μ1 s1 ρ1 σ1 H1 e R1 E1 h1 => ⟨μ1, s1, ρ1, R1, E1, h1⟩⟩
/-! ### assignments -/
theorem swap_at {a t : PySem.Expr} {l : Nat} (h : nComp a = true ∨ ∀ x p, t ≠ .Name x p) : swapsWith a (some t) l X.env = pure false := by
  rcases h with h | h
  · exact swap_no h
  · cases a <;> first | rfl | skip
    all_goals (cases t <;> first | rfl | exact absurd rfl (h _ _))
theorem asg_b {D : Ends} {σ : L2.St} {H : Hp} {te : TE} {μ : List Addr} {st : Store} {ρ : MP.Env} (R : Rep X.K X.w ca μ H st) (E : RepE X.K X.w μ H ρ σ) (h : PostS X.K X.w ca (evS P call (.asg T A) ρ st) μ H D)
    (hte : ∀ Q, Post X.K X.w ca (evE P call A ρ st) μ H Q → te σ H Q) : tAsg te (tGt X.K X.w ca P call T) D σ H :=
  hte _ (PostS.val h fun μ1 s1 x v H1 e R1 r1 h1 => ⟨μ1, s1, ρ, x, R1, E.ext R e, r1, PostS.val h1 fun μ2 s2 ρ2 σ2 H2 e2 R2 r2 h2 => h2 μ2 σ2 H2 .refl R2 r2.1⟩)
theorem s_asg (ha : EX X ca P call a A) (ht : GX X ca P call t T) (hs : nComp a = true ∨ ∀ x p, t ≠ .Name x p) (hu : nTL t = true ∨ nTup a = true) (hst : ∀ x p, t ≠ .Starred x p) : SX X ca P call (.Assign [t] a pos) (.asg T A) := by
  refine (ps_asg ha ht (swap_at hs) ?_ ?_).imp fun D σ H ⟨μ, st, ρ, R, E, h⟩ => asg_b R E h fun Q hq => ⟨μ, st, ρ, R, E, hq⟩
  · rcases hu with hu | hu
    · cases t <;> first | (cases hu; done) | rfl
    · cases t <;> first | rfl | skip
      all_goals (cases a <;> first | rfl | (cases hu; done))
  · cases t <;> first | rfl | exact absurd rfl (hst _ _)
/-- name = [..] on one line -/
theorem s_lc {n j : Nat} {S : SC} (ih : AllOk Sg P call ca j n) (xs : XS S X) (g : GOk Sg P call ca j X) (y : Str) (py : Pos) (elt : PySem.Expr) (gens : List Comprehension) (sc : Scope) (spos : Pos) (i : Nat) (hi : idx8 y S.N = some i) (hset : ∀ g, gens = [g] → nSet g.iter = true)
    (hline : py.line = pos.line) (hloc : S.esc.names.lookup y = some .local) (hcl : (sc.names.any fun (n, k) => n == y && (k == .local || k == .cell)) = false) :
    SX X ca P call (.Assign [.Name y py] (.ListComp elt gens sc pos) spos) (.asg (.name i) (trE Sg (n + 1) S (.ListComp elt gens sc pos))) := by
  have bad : ∀ s : PySem.Stmt, SX X ca P call s (.asg (.name i) bdE) := fun s => ⟨fun pins s σ H D I ⟨μ, st, ρ, _, _, h⟩ => h.elim⟩
  unfold trE
  dsimp only
  split
  · rename_i gg
    split
    · rename_i hc
      rw [Bool.and_eq_true, decide_eq_true_eq] at hc
      split
      · rename_i hix
        have hs := hset gg rfl
        obtain ⟨tg, iter, ifs, as⟩ := gg
        obtain ⟨rfl, hb⟩ := hc
        have hix' : ∀ i ∈ tgIx (trG Sg n ⟨S.N, L2.relS sc S.esc, fun x => sc.names.lookup x == some .cell⟩ tg), i ∈ (ownOf S.N sc).map (·.2) := fun i hi => by
          have := List.all_eq_true.mp hix i hi
          simpa using this
        have ok : BlkOk X.N X.env.scope sc (ownOf S.N sc) := by rw [xs.N, xs.esc]; exact blkOk_by hb
        have hyl : X.env.scope.names.lookup y = some .local := by rw [xs.esc]; exact hloc
        have hg : ∀ (s : Shared) (H : Hp) (C : Addr) (cl : List (Str × Addr)) (fp : List Addr), PG (X.blk s H sc (compEnvC sc cl C X.env) fp) tg (tGt X.K X.w ca P call (trG Sg n ⟨S.N, L2.relS sc S.esc, fun x => sc.names.lookup x == some .cell⟩ tg)) := fun s H C cl fp => by
          obtain ⟨x1, g1⟩ := no_blk g xs s H C cl fp (sc := sc)
          exact ih.g _ _ x1 g1 tg
        have ht : ∀ (s : Shared) (H : Hp) (C : Addr) (cl : List (Str × Addr)) (fp : List Addr), PTs (X.blk s H sc (compEnvC sc cl C X.env) fp) ifs (tCo X.K X.w ca P call (trC Sg n ⟨S.N, L2.relS sc S.esc, fun x => sc.names.lookup x == some .cell⟩ ifs)) := fun s H C cl fp => by
          obtain ⟨x1, g1⟩ := no_blk g xs s H C cl fp (sc := sc)
          exact ih.c _ _ x1 g1 ifs
        have he : ∀ (s : Shared) (H : Hp) (C : Addr) (cl : List (Str × Addr)) (fp : List Addr), PE (X.blk s H sc (compEnvC sc cl C X.env) fp) elt (tE X.K X.w ca P call (trE Sg n ⟨S.N, L2.relS sc S.esc, fun x => sc.names.lookup x == some .cell⟩ elt)) := fun s H C cl fp => by
          obtain ⟨x1, g1⟩ := no_blk g xs s H C cl fp (sc := sc)
          exact (ih.e _ _ x1 g1 elt).1
        refine ⟨fun pins s σ H D I hh => (ps_setLc (i := i) g.calm (by rw [xs.N]; exact xs.nd) (xs.ix hi) hyl (sw_true I.ok.kind hyl (beq_iff_eq.mpr hline) hcl) (ih.i S X xs g tg iter) ok hg ht he (iter_set hs)).run pins s σ H D I ?_⟩
        obtain ⟨μ, st, ρ, R, E, h⟩ := hh
        exact lc_b hix' R E (PostS.val h fun μ1 s1 x v H1 e R1 r1 h1 => h1 μ1 _ H1 .refl R1 ((E.ext R e).set r1))
      · exact bad _
    · exact bad _
  · exact bad _
/-! ### loops -/
theorem s_for {tg iter : PySem.Expr} {I : MP.It} {body : List PySem.Stmt} {Y : Sms} (hp : PassesOwn (model X.prog X.w) X.A X.env X.xe) (hc : X.calm = true) (hs : nSet iter = true) (hi : IX X ca P call tg iter I) (hg : GX X ca P call tg T) (hb : SsX X ca P call body Y) :
    SX X ca P call (.For tg iter body [] pos) (.for T I Y) := by
  refine (ps_for hp hc hi hg hb (iter_set hs)).imp fun D σ H ⟨μ, st, ρ, R, E, h⟩ => ⟨μ, st, ρ, R, E, PostS.val h fun μ1 s1 k J H1 e1 R1 hJ h1 => ?_⟩
  generalize hbd : (fun (w : W) (ρ : MP.Env) (st : Store) => (evG P call T w ρ st).bindS fun ρ' st => evB P call Y ρ' st) = bd at h1
  refine ⟨fun i m σ' H' => i ≤ k.items.length ∧ m = k.items.length - i ∧ ∃ μ' st' ρ', Ext μ1 H1 μ' H' ∧ Rep X.K X.w ca μ' H' st' ∧ RepE X.K X.w μ' H' ρ' σ' ∧ PostS X.K X.w ca (loopF k bd (k.items.drop i) ρ' st') μ' H' D,
    ⟨k.items.length, Nat.zero_le _, by simp, μ1, s1, ρ, .refl, R1, E.ext R e1, h1⟩, ?_⟩
  rintro i m σ' H' ⟨hi', rfl, μ', st', ρ', e', R', E', hp'⟩
  have holds : k.holds st' = true := by
    cases hh : k.holds st' with
    | true => rfl
    | false => cases hd : k.items.drop i <;> rw [hd] at hp' <;> unfold loopF at hp' <;> rw [hh] at hp' <;> exact hp'.elim
  obtain ⟨j1, j2⟩ := hJ i μ' H' st' e' R' holds
  by_cases hlt : i < k.items.length
  · obtain ⟨go, yl⟩ := j2 _ (List.getElem?_eq_getElem hlt)
    rw [List.drop_eq_getElem_cons hlt] at hp'
    unfold loopF at hp'
    rw [if_pos holds] at hp'
    refine .inr ⟨go, fun σ2 H2 => ∃ m', m' < k.items.length - i ∧ i + 1 ≤ k.items.length ∧ m' = k.items.length - (i + 1) ∧ ∃ μ' st' ρ', Ext μ1 H1 μ' H2 ∧ Rep X.K X.w ca μ' H2 st' ∧ RepE X.K X.w μ' H2 ρ' σ2 ∧ PostS X.K X.w ca (loopF k bd (k.items.drop (i + 1)) ρ' st') μ' H2 D, fun σ2 H2 hn => hn, fun x H'' hy => ?_⟩
    obtain ⟨e2, R2, rx⟩ := yl x H'' hy
    have hq := PostS.bind (N := fun σ2 H2 => ∃ m', m' < k.items.length - i ∧ i + 1 ≤ k.items.length ∧ m' = k.items.length - (i + 1) ∧ ∃ μ' st' ρ', Ext μ1 H1 μ' H2 ∧ Rep X.K X.w ca μ' H2 st' ∧ RepE X.K X.w μ' H2 ρ' σ2 ∧ PostS X.K X.w ca (loopF k bd (k.items.drop (i + 1)) ρ' st') μ' H2 D) (bk := D.nx)
      (ct := fun σ2 H2 => ∃ m', m' < k.items.length - i ∧ i + 1 ≤ k.items.length ∧ m' = k.items.length - (i + 1) ∧ ∃ μ' st' ρ', Ext μ1 H1 μ' H2 ∧ Rep X.K X.w ca μ' H2 st' ∧ RepE X.K X.w μ' H2 ρ' σ2 ∧ PostS X.K X.w ca (loopF k bd (k.items.drop (i + 1)) ρ' st') μ' H2 D)
      (PostS.shift e2 hp') fun μ3 s3 ρ3 σ3 H3 e3 R3 E3 h3 => ⟨k.items.length - (i + 1), by omega, hlt, rfl, μ3, s3, ρ3, (e'.trans e2).trans e3, R3, E3, h3⟩
    rw [← hbd] at hq
    exact ⟨μ', st', ρ', _, R2, E'.ext R' e2, rx, PostS.val hq fun μ3 s3 ρ3 σ3 H3 e3 R3 r3 h3 => ⟨μ3, s3, ρ3, R3, r3.1, by rw [hbd] at h3; exact h3⟩⟩
  · have e : i = k.items.length := by omega
    subst e
    rw [List.drop_length] at hp'
    unfold loopF at hp'
    rw [if_pos holds] at hp'
    exact .inl ⟨j1 (Nat.le_refl _), hp' μ' σ' H' .refl R' E'⟩
theorem s_whl {body : List PySem.Stmt} {Y : Sms} (hp : PassesOwn (model X.prog X.w) X.A X.env X.xe) (hc : TX X ca P call c C) (hb : SsX X ca P call body Y) : SX X ca P call (.While c body [] pos) (.whl C Y) := by
  refine (ps_while hp hc hb).imp fun D σ H ⟨μ, st, ρ, R, E, h⟩ => ?_
  refine ⟨fun m σ' H' => ∃ μ st ρ, Rep X.K X.w ca μ H' st ∧ RepE X.K X.w μ H' ρ σ' ∧ PostS X.K X.w ca (loopW (evE P call C) (fun ρ st => evB P call Y ρ st) m ρ st) μ H' D, ⟨P.turns, μ, st, ρ, R, E, h⟩, ?_⟩
  rintro m σ' H' ⟨μ1, st1, ρ1, R1, E1, h1⟩
  cases m with
  | zero => exact h1.elim
  | succ m =>
    refine ⟨μ1, st1, ρ1, R1, E1, ?_⟩
    unfold loopW at h1
    cases hx : evE P call C ρ1 st1 with
    | ok v s =>
      rw [hx] at h1
      cases v <;> first | exact h1.elim | skip
      rename_i k
      intro μ2 b H2 e2 R2 r2
      obtain rfl : k = b := r2
      have E2 := E1.ext R1 e2
      cases k with
      | true => exact ⟨fun σ3 H3 => ∃ μ st ρ, Rep X.K X.w ca μ H3 st ∧ RepE X.K X.w μ H3 ρ σ3 ∧ PostS X.K X.w ca (loopW (evE P call C) (fun ρ st => evB P call Y ρ st) m ρ st) μ H3 D, fun σ3 H3 hn => ⟨m, Nat.lt_succ_self _, hn⟩, μ2, s, ρ1, R2, E2, PostS.bind (PostS.shift e2 h1) fun μ3 s3 ρ3 σ3 H3 e3 R3 E3 h3 => ⟨μ3, s3, ρ3, R3, E3, h3⟩⟩
      | false => exact h1 μ2 σ' H2 e2 R2 E2
    | exc x s => rw [hx] at h1; exact h1
    | bad => rw [hx] at h1; exact h1
/-! ### all statements -/
theorem s_no {s : PySem.Stmt} {T : Sm} (h : ∀ ρ st, evS P call T ρ st = .bad) : SX X ca P call s T := ⟨fun pins s σ H D I ⟨μ, st, ρ, _, _, hh⟩ => by rw [h] at hh; exact hh.elim⟩
structure StOk (Sg : Sig) (P : Prog) (call : MP.Call) (ca : Str → Addr) (j n : Nat) : Prop where
  s : ∀ S X, XS S X → GOk Sg P call ca j X → PassesOwn (model X.prog X.w) X.A X.env X.xe → ∀ s, SX X ca P call s (trS Sg n S s)
  ss : ∀ S X, XS S X → GOk Sg P call ca j X → PassesOwn (model X.prog X.w) X.A X.env X.xe → ∀ s, SsX X ca P call s (trSs Sg n S s)
theorem comp_kind {e : PySem.Expr} (h : nComp e = false) : (∃ elt gens sc p, e = .ListComp elt gens sc p) ∨ ∀ n S, trE Sg n S e = bdE := by
  cases e <;> first | (cases h; done) | skip
  · exact .inl ⟨_, _, _, _, rfl⟩
  all_goals exact .inr fun n S => by cases n <;> rfl
theorem asg_bad {t : Tg} (h : A = bdE) (ρ : MP.Env) (st : Store) : evS P call (.asg t A) ρ st = .bad := by subst h; rfl
theorem st_step {j n : Nat} (ih : StOk Sg P call ca j n) (S : SC) (X : Cx) (xs : XS S X) (g : GOk Sg P call ca j X) (hp : PassesOwn (model X.prog X.w) X.A X.env X.xe) (s : PySem.Stmt) : SX X ca P call s (trS Sg (n + 1) S s) := by
  have ax := all_ok (Sg := Sg) (P := P) (call := call) (ca := ca) (j := j) n
  have hE := fun e => (ax.e S X xs g e).1
  have hT := fun e => (ax.e S X xs g e).2.1
  unfold trS
  split
  · split
    · exact s_ret (hE _)
    · exact s_retN
  · exact s_pass
  · split
    · rename_i h
      exact s_exp (hE _) h
    · exact s_bad
  · exact s_if (hT _) (ih.ss S X xs g hp _) (ih.ss S X xs g hp _)
  · rename_i c b o p
    split
    · rename_i h
      have : o = [] := by simpa using h
      subst this
      exact s_whl hp (hT _) (ih.ss S X xs g hp _)
    · exact s_bad
  · rename_i t it b o p
    split
    · rename_i h
      have : o = [] := by simpa using h
      subst this
      cases hs : nSet it with
      | true => exact s_for hp g.calm hs (ax.i S X xs g t it) (ax.g S X xs g t) (ih.ss S X xs g hp _)
      | false => exact s_no fun ρ st => by rw [i_set hs]; rfl
    · exact s_bad
  · rename_i ts e p
    split
    · rename_i t
      split
      · rename_i hc
        rw [Bool.and_eq_true, Bool.or_eq_true] at hc
        split
        · rename_i h
          exact s_asg (hE _) (ax.g S X xs g t) (.inl h) hc.1 (nst1 hc.2)
        · rename_i h
          unfold lcS
          split
          · rename_i y py
            split
            · rename_i elt gg sc pos
              split
              · rename_i h2
                simp only [Bool.and_eq_true, decide_eq_true_eq, Bool.not_eq_true'] at h2
                obtain ⟨⟨⟨h3, h4⟩, h5⟩, h6⟩ := h2
                cases n with
                | zero => exact s_no fun ρ st => rfl
                | succ n =>
                  unfold trG
                  dsimp only
                  have hst : MP.sto S y = true := by unfold MP.sto; rw [h5]
                  rw [if_pos hst]
                  cases hi : idx8 y S.N with
                  | none =>
                    refine ⟨fun pins s σ H D I ⟨μ, st, ρ, R, E, hh⟩ => ?_⟩
                    exfalso
                    simp only [evS] at hh
                    cases hx : evE P call (trE Sg (n + 1) S (.ListComp elt [gg] sc pos)) ρ st with
                    | ok a s => rw [hx] at hh; exact hh
                    | exc x s => rw [hx] at hh; exact hh
                    | bad => rw [hx] at hh; exact hh
                  | some i => exact s_lc (all_ok n) xs g y py elt [gg] sc p i hi (fun g' e => by cases e; exact h3) h4 h5 h6
              · exact s_bad
            · exact s_bad
          · rename_i hn
            exact s_asg (hE _) (ax.g S X xs g t) (.inr fun x p z => hn x p z) hc.1 (nst1 hc.2)
      · exact s_bad
    · exact s_bad
  · exact s_bad
theorem st_ok {j : Nat} : ∀ n, StOk Sg P call ca j n
  | 0 => ⟨fun S X xs g hp s => s_bad, fun S X xs g hp s => ss_bad⟩
  | n + 1 =>
    have ih := st_ok n
    ⟨fun S X xs g hp s => st_step ih S X xs g hp s, fun S X xs g hp s => match s with
      | [] => ss_nil
      | s :: r => ss_cons (ih.s S X xs g hp s) (ih.ss S X xs g hp r)⟩
end
end MPS


set_option Elab.async false
set_option linter.all false
set_option maxRecDepth 100000
set_option autoImplicit false
set_option maxHeartbeats 4000000
/-! S15: every def of the text does what callF says, to any depth that there is room for. -/
namespace MPS
open PySem PySem.Spec PyProof.Rows L2 MP
/-- a def with its names -/
structure Ent where
  d : He.DefD
  ps : List Str
  N : List Str
def Ent.df (sg : Sig) (n : Nat) (e : Ent) : FK × Df := (e.d.at_, ⟨e.ps.length, e.N.length, trSs sg n ⟨e.N, e.d.scope, fun _ => true⟩ e.d.body⟩)
/-- what a law's text is taken for -/
structure TxtOk (sg : Sig) (P : Prog) (T : List Ent) (n : Nat) (K : PySem.W.Frag) (w : World) (mg : Str → Option Value) : Prop where
  fns : P.fns = T.map (Ent.df sg n)
  nd : (T.map fun e => e.d.at_).Nodup
  sc : ∀ e ∈ T, C8.scC e.N e.ps e.d.scope = true
  fd : ∀ e ∈ T, ∃ fd, FunD K e.d.name e.d.qual e.d.params e.d.body e.d.scope [] [] (He.fAd K e.d.at_) fd ∧ Binds K fd e.ps []
  glo : ∀ e ∈ T, ∀ x, e.d.at_ = (x, none) → mg x = some (.ref (He.ga K x))
  met : ∀ e ∈ T, ∀ c m, e.d.at_ = (c, some m) → m ≠ "__init__" → Cls K (He.ga K c) ∧ Meth K (He.ga K c) m (He.ma K (He.ga K c) m)
  mak : ∀ e ∈ T, ∀ c, e.d.at_ = (c, some ("__init__" : Str)) → Mk K (He.ga K c) (He.ma K (He.ga K c) "__init__") ∧ mg c = some (.ref (He.ga K c))
  keys : ∀ f, sg.has f = true → ∃ d, P.fn f = some d
  gl : ∀ x y, lookS P.glos x = some y → ∃ u v, mg x = some u ∧ RelV v u ∧ (∀ μ H, RepV K w μ H y v) ∧ ∀ l, y = .tup l → ∃ q o, v = .ref q ∧ K.lookup q = some o ∧ o.cls = .type "tuple" ∧ o.dict = none
  flds : FldsOk P K (He.ga K)
  free : ∀ x, sg.free.contains x = true → mg x = none
theorem lookK_in {T : List (FK × Df)} {f : FK} {d : Df} (h : lookK T f = some d) : (f, d) ∈ T := by
  induction T with
  | nil => cases h
  | cons p r ih =>
    unfold lookK at h
    split at h
    · rename_i e
      cases h
      rw [← e]; exact List.mem_cons_self
    · exact List.mem_cons_of_mem _ (ih h)
section
variable {sg : Sig} {P : Prog} {T : List Ent} {n : Nat} {K : PySem.W.Frag} {w : World} {mg : Str → Option Value}
theorem TxtOk.ent (t : TxtOk sg P T n K w mg) {f : FK} {d : Df} (h : P.fn f = some d) : ∃ e ∈ T, e.d.at_ = f ∧ d = (Ent.df sg n e).2 := by
  have h := lookK_in h
  rw [t.fns] at h
  obtain ⟨e, he, ee⟩ := List.mem_map.mp h
  have h1 : e.d.at_ = f := congrArg Prod.fst ee
  have h2 : (Ent.df sg n e).2 = d := congrArg Prod.snd ee
  exact ⟨e, he, h1, h2.symm⟩
theorem lookK_at {sg : Sig} {n : Nat} : ∀ {T : List Ent} {e : Ent}, (T.map fun e => e.d.at_).Nodup → e ∈ T → lookK (T.map (Ent.df sg n)) e.d.at_ = some (Ent.df sg n e).2
  | a :: r, e, nd, h => by
    rw [List.map_cons] at nd
    obtain ⟨n1, n2⟩ := List.nodup_cons.mp nd
    rw [List.map_cons]
    unfold lookK
    rcases List.mem_cons.mp h with rfl | h
    · rw [if_pos (show (Ent.df sg n e).1 = e.d.at_ from rfl)]
    · have hne : (Ent.df sg n a).1 ≠ e.d.at_ := fun z => n1 (by
        have z : a.d.at_ = e.d.at_ := z
        rw [z]; exact List.mem_map.mpr ⟨e, h, rfl⟩)
      rw [if_neg hne]
      exact lookK_at n2 h
theorem TxtOk.at_ (t : TxtOk sg P T n K w mg) {e : Ent} (h : e ∈ T) : P.fn e.d.at_ = some (Ent.df sg n e).2 := by
  show lookK P.fns _ = _
  rw [t.fns]
  exact lookK_at t.nd h
theorem arity_ok : ∀ k, Arity P (callF P k)
  | 0 => fun f ws st => .inr rfl
  | 1 => fun f ws st => by
    unfold callF
    split
    · exact .inr rfl
    · cases h : P.fn f with
      | none => exact .inr rfl
      | some d =>
        by_cases hl : ws.length = d.ps
        · exact .inl ⟨d, rfl, hl⟩
        · exact .inr (by simp only [runD, if_neg hl])
  | k + 2 => fun f ws st => by
    unfold callF
    cases h : P.fn f with
    | none => exact .inr rfl
    | some d =>
      by_cases hl : ws.length = d.ps
      · exact .inl ⟨d, rfl, hl⟩
      · exact .inr (by
          simp only [runD, if_neg hl]
          split <;> rfl)
/-- the level at which a def is known -/
def lev (k : Nat) (f : FK) : Nat := if isInit f then k - 1 else k
variable {P0 : Program} {base : Heap}
abbrev FnAt (P0 : Program) (w : World) (base : Heap) (P : Prog) (K : PySem.W.Frag) (mg : Str → Option Value) (k l : Nat) (e : Ent) : Prop := ∀ fd, FunD K e.d.name e.d.qual e.d.params e.d.body e.d.scope [] [] (He.fAd K e.d.at_) fd → FnOk P0 w K mg base CX0 l (He.fAd K e.d.at_) fd e.ps (spOf K w (He.ga K) (callF P k) e.d.at_ e.ps.length)
/-- a body -/
theorem body_ok (t : TxtOk sg P T n K w mg) {k m : Nat} {e : Ent} (he : e ∈ T) (hk : ∀ ws st, callF P m e.d.at_ ws st = runD P (callF P k) (Ent.df sg n e).2 ws st)
    (hg : ∀ X : Cx, X.prog = P0 → X.w = w → X.K = K → X.mg = mg → X.base = base → X.calm = true → Room k X.A → GOk sg P (callF P k) (He.ga K) k X) : FnAt P0 w base P K mg m (k + 1) e := by
  intro fd F
  have S := C8.fnScope_by (t.sc e he)
  refine F.ok S (fun vs H Q E h => h.1) (fun cdv A outer s H vs Q E hr h => ⟨_, PSs.nox ((st_ok (Sg := sg) (P := P) (call := callF P k) (ca := He.ga K) (j := k) n).ss ⟨e.N, e.d.scope, fun _ => true⟩ _ ⟨rfl, S.nd, rfl, fun _ _ => rfl⟩ (hg _ rfl rfl rfl rfl rfl rfl hr) PassesOwn.never e.d.body), ?_⟩)
  obtain ⟨hl, μ, st, ws, R, rv, h⟩ := h
  rw [hk] at h
  unfold runD at h
  have hw : ws.length = e.ps.length := by rw [← repVs_len rv]; exact hl
  split at h
  · refine ⟨μ, st, ws.map some ++ List.replicate (e.N.length - e.ps.length) none, R, ⟨?_, fun i x hx => ?_⟩, ?_⟩
    · unfold L2.start
      simp only [List.length_append, List.length_map, List.length_replicate]
      rw [repVs_len rv, hw]
    · have hi : i < ws.length := by
        by_cases hi : i < ws.length
        · exact hi
        · rw [List.getElem?_append_right (by simpa using hi), List.getElem?_replicate] at hx
          split at hx <;> cases hx
      rw [List.getElem?_append_left (by simpa using hi), List.getElem?_map] at hx
      obtain ⟨y, hy, hx⟩ := Option.map_eq_some_iff.mp hx
      cases hx
      obtain ⟨v, hv, r⟩ := repVs_get rv hy
      refine ⟨v, ?_, r⟩
      unfold L2.start
      rw [List.getElem?_append_left (by simpa [repVs_len rv] using hi), List.getElem?_map, hv]
      rfl
    · have h : Post K w (He.ga K) (match evB P (callF P k) (trSs sg n ⟨e.N, e.d.scope, fun _ => true⟩ e.d.body) (ws.map some ++ List.replicate (e.N.length - e.ps.length) none) st with
        | .nx _ st => .ok .non st
        | .ret w st => .ok w st
        | .exc x st => .exc x st
        | .bad => .bad) μ H Q := h
      cases hx : evB P (callF P k) (trSs sg n ⟨e.N, e.d.scope, fun _ => true⟩ e.d.body) (ws.map some ++ List.replicate (e.N.length - e.ps.length) none) st with
      | nx ρ s =>
        rw [hx] at h
        exact fun μ' σ' H' ex R' E' => h μ' .non H' ex R' rfl
      | ret a s =>
        rw [hx] at h
        exact fun μ' v H' ex R' r' => h μ' v H' ex R' r'
      | exc x s => rw [hx] at h; exact h.elim
      | bad => rw [hx] at h; exact h.elim
  · exact h.elim
theorem spBad {K : PySem.W.Frag} {w : World} {ca : Str → Addr} {call : MP.Call} {f : FK} {n : Nat} {vs : List V} {H : Hp} {Q : VK} {E : XK} (hb : ∀ ws st, call f ws st = .bad) (h : spOf K w ca call f n vs H Q E) : False := by
  obtain ⟨_, μ, st, ws, _, _, h⟩ := h
  rw [hb] at h
  exact h
theorem fnBad {e : Ent} {k l : Nat} (hb : ∀ ws st, callF P k e.d.at_ ws st = .bad) : FnAt P0 w base P K mg k l e := fun fd F =>
  ⟨fun vs H Q E h => h.1, fun A outer s H args us vs Q E hr he hbd hv hs => (spBad hb hs).elim⟩
/-- the defs at depth k, the makers one deeper -/
structure Lev (P0 : Program) (w : World) (base : Heap) (P : Prog) (T : List Ent) (K : PySem.W.Frag) (mg : Str → Option Value) (k : Nat) : Prop where
  fn : ∀ e ∈ T, isInit e.d.at_ = false → FnAt P0 w base P K mg k k e
  mak : ∀ e ∈ T, isInit e.d.at_ = true → (∃ l, l + 1 ≤ k ∧ FnAt P0 w base P K mg k l e) ∨ ∀ ws st, callF P k e.d.at_ ws st = .bad
theorem init_no {x : Str} : isInit (x, none) = false := rfl
theorem init_yes {f : FK} (h : isInit f = true) : ∃ c, f = (c, some ("__init__" : Str)) := by
  obtain ⟨c, m⟩ := f
  cases m with
  | none => cases h
  | some m => exact ⟨c, by rw [show m = "__init__" from of_decide_eq_true h]⟩
theorem Lev.gok (t : TxtOk sg P T n K w mg) {k : Nat} (L : Lev P0 w base P T K mg k) (X : Cx) (hP : X.prog = P0) (hw : X.w = w) (hK : X.K = K) (hm : X.mg = mg) (hb : X.base = base) (hc : X.calm = true) (hr : Room k X.A) : GOk sg P (callF P k) (He.ga K) k X := by
  subst hP hw hK hm hb
  refine ⟨hc, hr, arity_ok k, fun x d hd => ?_, fun c m d hd hi => ?_, fun x d hd => ?_, fun x y hl => t.gl x y hl, t.flds, t.free, t.keys⟩
  · obtain ⟨e, he, h1, h2⟩ := t.ent hd
    obtain ⟨fd, F, B⟩ := t.fd e he
    have hf := L.fn e he (by rw [h1]; rfl) fd F
    have g := t.glo e he x h1
    subst h2
    rw [h1] at hf F
    exact ⟨He.ga X.K x, fd, e.ps, [], hf, g, F.kp, B, .nil⟩
  · obtain ⟨e, he, h1, h2⟩ := t.ent hd
    obtain ⟨fd, F, B⟩ := t.fd e he
    have hf := L.fn e he (by rw [h1]; exact decide_eq_false hi) fd F
    obtain ⟨g1, g2⟩ := t.met e he c m h1 hi
    subst h2
    rw [h1] at hf F
    exact ⟨_, fd, e.ps, [], g1, g2, hf, B, .nil⟩
  · obtain ⟨e, he, h1, h2⟩ := t.ent hd
    obtain ⟨fd, F, B⟩ := t.fd e he
    obtain ⟨g1, g2⟩ := t.mak e he x h1
    have hi : isInit e.d.at_ = true := by rw [h1]; exact decide_eq_true (p := (("__init__" : Str) = "__init__")) rfl
    rcases L.mak e he hi with ⟨l, hl, hf⟩ | hb
    · refine .inl ⟨l, hl, ?_⟩
      have hf := hf fd F
      subst h2
      rw [h1] at hf F
      exact ⟨_, fd, e.ps, [], g1, hf, g2, B, .nil⟩
    · rw [h1] at hb
      exact .inr hb
theorem lev_ok (t : TxtOk sg P T n K w mg) : ∀ k, Lev P0 w base P T K mg k ∧ Lev P0 w base P T K mg (k + 1)
  | 0 => by
    have L0 : Lev P0 w base P T K mg 0 := ⟨fun e he _ => fnBad fun _ _ => rfl, fun e he _ => .inr fun _ _ => rfl⟩
    refine ⟨L0, fun e he hi => body_ok t he (k := 0) (fun ws st => ?_) (L0.gok t), fun e he hi => .inr fun ws st => by unfold callF; rw [hi]; rfl⟩
    unfold callF
    rw [hi, t.at_ he]
    rfl
  | k + 1 => by
    obtain ⟨L0, L1⟩ := lev_ok t k
    refine ⟨L1, fun e he hi => body_ok t he (k := k + 1) (fun ws st => ?_) (L1.gok t), fun e he hi => .inl ⟨k + 1, Nat.le_refl _, body_ok t he (k := k) (fun ws st => ?_) (L0.gok t)⟩⟩
    · rw [callF, t.at_ he]
      dsimp only
      rw [hi]
      rfl
    · rw [callF, t.at_ he]
      dsimp only
      rw [hi]
      rfl
end
end MPS


set_option Elab.async false
set_option linter.all false
set_option maxRecDepth 100000
set_option autoImplicit false
set_option maxHeartbeats 4000000
/-! S16: from the head's facts to the law. -/
namespace MPS
open PySem PySem.Spec PyProof.Rows L2 MP
/-- a constant of the module -/
inductive GE where
  | int (i : Int) | str (z : Str) | tup (zs : List Str) | gd (kvs : List (Str × Str))
def GE.w : GE → W
  | .int i => .int i
  | .str z => .str z
  | .tup zs => .tup (zs.map .str)
  | .gd kvs => .gd kvs
def GE.fa (x : Str) : GE → List He.Fa
  | .int i => [.int x i]
  | .str z => [.str x z]
  | .tup _ => [.glo x]
  | .gd _ => [.glo x]
def GE.exB (K : PySem.W.Frag) (x : Str) : GE → Bool
  | .tup zs => He.tupB K x (zs.map .str) && (match K.lookup (He.ga K x) with | some o => decide (o.cls = .type "tuple") && decide (o.dict = none) | none => false)
  | .gd kvs => kdB K (He.ga K x) kvs
  | _ => true
def GE.tab (x : Str) : GE → List He.Tab
  | .gd kvs => [(fun K => He.ga K x, kvs.map (·.1))]
  | _ => []
def entFa (e : Ent) : List He.Fa := match e.d.at_ with
  | (x, none) => [.glo x]
  | (c, some m) => if m = "__init__" then [.mkr c, .glo c] else [.cls c, .meth c m]
def faOf (T : List Ent) (gs : List (Str × GE)) (fl : List (Str × List Str)) (fr : List Str) : List He.Fa :=
  T.flatMap entFa ++ (gs.flatMap fun g => g.2.fa g.1) ++ (fl.flatMap fun c => .cls c.1 :: c.2.map fun f => .noat c.1 f) ++ fr.map .free
def tsOf (gs : List (Str × GE)) : List He.Tab := gs.flatMap fun g => g.2.tab g.1
def exOf (gs : List (Str × GE)) (K : PySem.W.Frag) : Bool := gs.all fun g => g.2.exB K g.1
def BdOk (e : Ent) : Prop := ∀ (kV doc pm : Value) (an : Option Addr) (cdv ct : Value) (us : List Value), us.length = e.ps.length → bindArgs (PySem.W.fnOf e.d.name e.d.qual e.d.params e.d.body e.d.scope .none kV doc pm an cdv ct) ⟨us, []⟩ = pure (e.ps.zip us)
/-- what of it is seen without a run -/
structure StOf (sg : Sig) (P : Prog) (T : List Ent) (gs : List (Str × GE)) (fl : List (Str × List Str)) (n : Nat) : Prop where
  fns : P.fns = T.map (Ent.df sg n)
  glos : P.glos = gs.map fun g => (g.1, g.2.w)
  flds : P.flds = fl
  keys : sg.keys = T.map fun e => e.d.at_
  nd : (T.map fun e => e.d.at_).Nodup
  sc : (T.all fun e => C8.scC e.N e.ps e.d.scope && e.d.dfl.isEmpty && e.d.kwd.isEmpty) = true
  bd : ∀ e ∈ T, BdOk e
theorem lookS_in {α : Type} {l : List (Str × α)} {x : Str} {y : α} (h : lookS l x = some y) : (x, y) ∈ l := by
  induction l with
  | nil => cases h
  | cons p r ih =>
    unfold lookS at h
    split at h
    · rename_i e
      cases h
      rw [← e]; exact List.mem_cons_self
    · exact List.mem_cons_of_mem _ (ih h)
theorem repVs_strs0 {K : PySem.W.Frag} {w : World} {μ : List Addr} {H : Hp} (zs : List Str) : RepVs K w μ H (zs.map .str) ((zs.map He.Dv.str).map (He.Dv.v K)) := by
  induction zs with
  | nil => exact rfl
  | cons z r ih => exact ⟨.str z, _, rfl, rfl, ih⟩
section
variable {sg : Sig} {P : Prog} {T : List Ent} {gs : List (Str × GE)} {fl : List (Str × List Str)} {n : Nat} {K : PySem.W.Frag} {w : World} {h : Heap} {mg : Str → Option Value}
theorem txt_of (s : StOf sg P T gs fl n) (X : K.In h) (G : h.Ns mainGlobals mg) (c : He.SaysX (faOf T gs fl sg.free) (T.map (·.d)) (tsOf gs) [] (exOf gs) w h K) : TxtOk sg P T n K w mg := by
  have fc : ∀ f, f ∈ faOf T gs fl sg.free → f.ok K = true := fun f hf => c.t.d.facts hf
  have fe : ∀ e ∈ T, ∀ f, f ∈ entFa e → f.ok K = true := fun e he f hf => fc f (by
    unfold faOf
    exact List.mem_append_left _ (List.mem_append_left _ (List.mem_append_left _ (List.mem_flatMap.mpr ⟨e, he, hf⟩))))
  have sc := List.all_eq_true.mp s.sc
  refine ⟨s.fns, s.nd, fun e he => ?_, fun e he => ?_, fun e he x hx => ?_, fun e he cl m hx hm => ?_, fun e he cl hx => ?_, fun f hf => ?_, fun x y hl => ?_, fun cl fs hl => ?_, fun x hx => ?_⟩
  · have := sc e he
    simp only [Bool.and_eq_true] at this
    exact this.1.1
  · have := sc e he
    simp only [Bool.and_eq_true] at this
    obtain ⟨fd, F⟩ := c.t.d.defs (d := e.d) (List.mem_map.mpr ⟨e, he, rfl⟩)
    have e1 : e.d.dvs K = [] := by unfold He.DefD.dvs; rw [show e.d.dfl = [] by simpa using this.1.2]; rfl
    have e2 : e.d.kws K = [] := by unfold He.DefD.kws; rw [show e.d.kwd = [] by simpa using this.2]; rfl
    rw [e1, e2] at F
    exact ⟨fd, F, F.bindsN (s.bd e he)⟩
  · exact He.glo_ok X G (fe e he (.glo x) (by unfold entFa; rw [hx]; simp))
  · exact ⟨He.cls_ok (fe e he (.cls cl) (by unfold entFa; rw [hx]; simp [hm])), He.meth_ok (fe e he (.meth cl m) (by unfold entFa; rw [hx]; simp [hm]))⟩
  · exact ⟨He.mkr_ok (fe e he (.mkr cl) (by unfold entFa; rw [hx]; simp)), He.glo_ok X G (fe e he (.glo cl) (by unfold entFa; rw [hx]; simp))⟩
  · unfold Sig.has at hf
    rw [s.keys] at hf
    obtain ⟨k, hk, e1⟩ := List.any_eq_true.mp hf
    obtain ⟨e, he, rfl⟩ := List.mem_map.mp hk
    have e1 : e.d.at_ = f := of_decide_eq_true e1
    subst e1
    exact ⟨_, by show lookK P.fns _ = _; rw [s.fns]; exact lookK_at s.nd he⟩
  · have hm := lookS_in hl
    rw [s.glos] at hm
    obtain ⟨⟨x', ge⟩, hg, e1⟩ := List.mem_map.mp hm
    obtain rfl : x' = x := congrArg Prod.fst e1
    obtain rfl : ge.w = y := congrArg Prod.snd e1
    have ff : ∀ f, f ∈ ge.fa x' → f.ok K = true := fun f hf => fc f (by
      unfold faOf
      exact List.mem_append_left _ (List.mem_append_left _ (List.mem_append_right _ (List.mem_flatMap.mpr ⟨(x', ge), hg, hf⟩))))
    have hex : ge.exB K x' = true := List.all_eq_true.mp c.more (x', ge) hg
    cases ge with
    | int i =>
      obtain ⟨t, ht⟩ := He.int_ok X G (ff (.int x' i) (by simp [GE.fa]))
      exact ⟨_, .int i, ht, ⟨t, rfl⟩, fun μ H => rfl, fun l z => by cases z⟩
    | str i =>
      obtain ⟨t, ht⟩ := He.str_ok X G (ff (.str x' i) (by simp [GE.fa]))
      exact ⟨_, .str i, ht, ⟨t, rfl⟩, fun μ H => rfl, fun l z => by cases z⟩
    | tup zs =>
      have ht := He.glo_ok X G (ff (.glo x') (by simp [GE.fa]))
      unfold GE.exB at hex
      rw [Bool.and_eq_true] at hex
      refine ⟨_, .ref (He.ga K x'), ht, rfl, fun μ H => ⟨_, _, rfl, He.tupB_ok hex.1 H, repVs_strs0 zs⟩, fun l _ => ?_⟩
      have h2 := hex.2
      split at h2
      · rename_i o ho
        rw [Bool.and_eq_true, decide_eq_true_eq, decide_eq_true_eq] at h2
        exact ⟨_, o, rfl, ho, h2.1, h2.2⟩
      · cases h2
    | gd kvs =>
      have ht := He.glo_ok X G (ff (.glo x') (by simp [GE.fa]))
      have htab : (fun K => He.ga K x', kvs.map (·.1)) ∈ tsOf gs := List.mem_flatMap.mpr ⟨(x', .gd kvs), hg, by simp [GE.tab]⟩
      obtain ⟨i, hi, ei⟩ := List.mem_iff_getElem.mp htab
      have hk := c.t.tab i (t := (fun K => He.ga K x', kvs.map (·.1))) (by rw [List.getElem?_eq_getElem hi, ei])
      exact ⟨_, .ref (He.ga K x'), ht, rfl, fun μ H => ⟨_, rfl, hex, hk⟩, fun l z => by cases z⟩
  · rw [s.flds] at hl
    have hm := lookS_in hl
    have ff : ∀ f, f ∈ (He.Fa.cls cl :: fs.map fun f => He.Fa.noat cl f) → f.ok K = true := fun f hf => fc f (by
      unfold faOf
      exact List.mem_append_left _ (List.mem_append_right _ (List.mem_flatMap.mpr ⟨(cl, fs), hm, hf⟩)))
    exact ⟨He.cls_ok (ff _ List.mem_cons_self), fun f hf => He.noat_ok (ff (.noat cl f) (List.mem_cons_of_mem _ (List.mem_map.mpr ⟨f, hf, rfl⟩)))⟩
  · exact He.free_ok X G (fc (.free x) (by
      unfold faOf
      exact List.mem_append_right _ (List.mem_map.mpr ⟨x, by simpa using hx, rfl⟩)))
theorem repVs_ints0 {μ : List Addr} {H : Hp} (l : List Int) : RepVs K w μ H (l.map W.int) (l.map V.int) := repVs_ints l
/-- the law's call -/
theorem law_sp {k : Nat} (pl : ∀ ns : List Int, ns.length ≤ 63 → ∃ st, callF P k ("law", none) [.fro (ns.map .int)] [] = .ok (.bl true) st) (H : Hp) (a : Addr) (ns : List Int) (hl : ns.length ≤ 63) (hO : Only H) (hS : SqL K H a (ns.map V.int)) :
    spOf K w (He.ga K) (callF P k) ("law", none) 1 [.ref a] H (fun v _ => v = .bl true) E0 := by
  obtain ⟨st, e⟩ := pl ns hl
  have hF : FroL K H a (ns.map V.int) := by
    rcases hS with (hS | ⟨o, hS⟩) | hS
    · rcases hO a with z | ⟨o, xs, z⟩
      · rw [z] at hS; cases hS
      · rw [z] at hS; cases hS
    · exact .inl ⟨o, hS⟩
    · exact .inr hS
  refine ⟨rfl, [], [], [.fro (ns.map .int)], ⟨rfl, .nil, fun i a o h => by simp at h⟩, ⟨_, _, rfl, ⟨a, _, rfl, hF, repVs_ints ns⟩, rfl⟩, ?_⟩
  rw [e]
  exact fun μ' v H' _ _ r => r
end
end MPS


set_option Elab.async false
set_option linter.all false
set_option maxRecDepth 100000
set_option maxHeartbeats 0
namespace Hd
open PySem PySem.Spec PyProof.Rows L2
def top (i : Nat) : Stmt := PySem.Challenge.pw_whatremains_k14_papers.main.body.getD i (.Pass ⟨0, 0, 0, 0⟩)
def e_is_number : MPS.Ent := ⟨⟨("is_number", none), "is_number", "is_number", defArgs (top 10), defBody (top 10), defScope (top 10), [], []⟩, ["thing"], ["thing"]⟩
def e_is_kind : MPS.Ent := ⟨⟨("is_kind", none), "is_kind", "is_kind", defArgs (top 11), defBody (top 11), defScope (top 11), [], []⟩, ["kind", "part"], ["kind", "part"]⟩
def e_has_shape : MPS.Ent := ⟨⟨("has_shape", none), "has_shape", "has_shape", defArgs (top 12), defBody (top 12), defScope (top 12), [], []⟩, ["part"], ["part", "kinds", "at"]⟩
def e_names_in : MPS.Ent := ⟨⟨("names_in", none), "names_in", "names_in", defArgs (top 13), defBody (top 13), defScope (top 13), [], []⟩, ["part"], ["part", "kinds", "at"]⟩
def e_fault_of : MPS.Ent := ⟨⟨("fault_of", none), "fault_of", "fault_of", defArgs (top 14), defBody (top 14), defScope (top 14), [], []⟩, ["part", "at", "deep", "names"], ["part", "at", "deep", "names", "own", "name"]⟩
def e_inner : MPS.Ent := ⟨⟨("inner", none), "inner", "inner", defArgs (top 15), defBody (top 15), defScope (top 15), [], []⟩, ["part", "names"], ["part", "names", "word", "kinds", "at"]⟩
def e_need_program : MPS.Ent := ⟨⟨("need_program", none), "need_program", "need_program", defArgs (top 16), defBody (top 16), defScope (top 16), [], []⟩, ["program"], ["program", "left", "at", "why", "some", "part", "deep", "names", "one", "bound"]⟩
def e_Counter___init__ : MPS.Ent := ⟨⟨("Counter", some "__init__"), "__init__", "Counter.__init__", defArgs (inClass (top 17) 0), defBody (inClass (top 17) 0), defScope (inClass (top 17) 0), [], []⟩, ["self"], ["self"]⟩
def e_Counter_node : MPS.Ent := ⟨⟨("Counter", some "node"), "node", "Counter.node", defArgs (inClass (top 17) 1), defBody (inClass (top 17) 1), defScope (inClass (top 17) 1), [], []⟩, ["self", "part"], ["self", "part", "number", "kinds", "found", "at"]⟩
def e_numbered : MPS.Ent := ⟨⟨("numbered", none), "numbered", "numbered", defArgs (top 18), defBody (top 18), defScope (top 18), [], []⟩, ["program"], ["program"]⟩
def e_nodes : MPS.Ent := ⟨⟨("nodes", none), "nodes", "nodes", defArgs (top 19), defBody (top 19), defScope (top 19), [], []⟩, ["node", "word"], ["node", "word", "found", "part"]⟩
def e_behind : MPS.Ent := ⟨⟨("behind", none), "behind", "behind", defArgs (top 26), defBody (top 26), defScope (top 26), [], []⟩, ["one", "other"], ["one", "other"]⟩
def e_either : MPS.Ent := ⟨⟨("either", none), "either", "either", defArgs (top 27), defBody (top 27), defScope (top 27), [], []⟩, ["one", "other"], ["one", "other"]⟩
def e_inner_of : MPS.Ent := ⟨⟨("inner_of", none), "inner_of", "inner_of", defArgs (top 28), defBody (top 28), defScope (top 28), [], []⟩, ["node", "rest"], ["node", "rest", "word", "part"]⟩
def e_uses : MPS.Ent := ⟨⟨("uses", none), "uses", "uses", defArgs (top 29), defBody (top 29), defScope (top 29), [], []⟩, ["node", "rest"], ["node", "rest"]⟩
def e_word_of : MPS.Ent := ⟨⟨("word_of", none), "word_of", "word_of", defArgs (top 30), defBody (top 30), defScope (top 30), [], []⟩, ["node", "rest", "words"], ["node", "rest", "words", "word", "found", "one"]⟩
def e_paper_of : MPS.Ent := ⟨⟨("paper_of", none), "paper_of", "paper_of", defArgs (top 31), defBody (top 31), defScope (top 31), [], []⟩, ["node", "rest"], ["node", "rest", "some", "one", "name"]⟩
def e_is_paper : MPS.Ent := ⟨⟨("is_paper", none), "is_paper", "is_paper", defArgs (top 32), defBody (top 32), defScope (top 32), [], []⟩, ["node", "rest", "paper"], ["node", "rest", "paper", "some", "at", "one"]⟩
def e_shows_it : MPS.Ent := ⟨⟨("shows_it", none), "shows_it", "shows_it", defArgs (top 33), defBody (top 33), defScope (top 33), [], []⟩, ["node", "paper"], ["node", "paper"]⟩
def e_papers : MPS.Ent := ⟨⟨("papers", none), "papers", "papers", defArgs (top 34), defBody (top 34), defScope (top 34), [], []⟩, ["program"], ["program", "found", "node", "paper"]⟩
def e_shows : MPS.Ent := ⟨⟨("shows", none), "shows", "shows", defArgs (top 35), defBody (top 35), defScope (top 35), [], []⟩, ["program", "number", "paper"], ["program", "number", "paper", "some"]⟩
def e__law_dice : MPS.Ent := ⟨⟨("_law_dice", none), "_law_dice", "_law_dice", defArgs (top 37), defBody (top 37), defScope (top 37), [], []⟩, ["_law_script"], ["_law_script", "_law_mixed", "_law_cell"]⟩
def e__law_next : MPS.Ent := ⟨⟨("_law_next", none), "_law_next", "_law_next", defArgs (top 38), defBody (top 38), defScope (top 38), [], []⟩, ["_law_dice_here", "_law_many"], ["_law_dice_here", "_law_many", "_law_found", "_law_cell"]⟩
def e__law_like : MPS.Ent := ⟨⟨("_law_like", none), "_law_like", "_law_like", defArgs (top 39), defBody (top 39), defScope (top 39), [], []⟩, ["_law_found", "_law_due"], ["_law_found", "_law_due", "_law_k"]⟩
def e__law_name : MPS.Ent := ⟨⟨("_law_name", none), "_law_name", "_law_name", defArgs (top 40), defBody (top 40), defScope (top 40), [], []⟩, ["_law_d", "_law_names", "_law_kinds"], ["_law_d", "_law_names", "_law_kinds", "_law_some", "_law_name_here"]⟩
def e__law_leaf : MPS.Ent := ⟨⟨("_law_leaf", none), "_law_leaf", "_law_leaf", defArgs (top 41), defBody (top 41), defScope (top 41), [], []⟩, ["_law_d", "_law_names"], ["_law_d", "_law_names", "_law_kinds", "_law_name_here"]⟩
def e__law_with : MPS.Ent := ⟨⟨("_law_with", none), "_law_with", "_law_with", defArgs (top 42), defBody (top 42), defScope (top 42), [], []⟩, ["_law_names", "_law_some"], ["_law_names", "_law_some", "_law_found"]⟩
def e__law_free : MPS.Ent := ⟨⟨("_law_free", none), "_law_free", "_law_free", defArgs (top 43), defBody (top 43), defScope (top 43), [], []⟩, ["_law_d"], ["_law_d"]⟩
def e__law_expr : MPS.Ent := ⟨⟨("_law_expr", none), "_law_expr", "_law_expr", defArgs (top 44), defBody (top 44), defScope (top 44), [], []⟩, ["_law_d", "_law_names", "_law_room"], ["_law_d", "_law_names", "_law_room", "_law_way", "_law_word", "_law_one"]⟩
def e__law_let : MPS.Ent := ⟨⟨("_law_let", none), "_law_let", "_law_let", defArgs (top 45), defBody (top 45), defScope (top 45), [], []⟩, ["_law_d", "_law_names", "_law_room", "_law_way"], ["_law_d", "_law_names", "_law_room", "_law_way", "_law_x", "_law_mine", "_law_body", "_law_y", "_law_fun"]⟩
def e__law_use : MPS.Ent := ⟨⟨("_law_use", none), "_law_use", "_law_use", defArgs (top 46), defBody (top 46), defScope (top 46), [], []⟩, ["_law_d", "_law_names", "_law_room"], ["_law_d", "_law_names", "_law_room", "_law_kind", "_law_name_here"]⟩
def e__law_catch : MPS.Ent := ⟨⟨("_law_catch", none), "_law_catch", "_law_catch", defArgs (top 47), defBody (top 47), defScope (top 47), [], []⟩, ["_law_d", "_law_names", "_law_room"], ["_law_d", "_law_names", "_law_room", "_law_x", "_law_k", "_law_body", "_law_mine", "_law_one", "_law_two", "_law_twice", "_law_some"]⟩
def e__law_size : MPS.Ent := ⟨⟨("_law_size", none), "_law_size", "_law_size", defArgs (top 48), defBody (top 48), defScope (top 48), [], []⟩, ["_law_part"], ["_law_part", "_law_one"]⟩
def e__law_deep : MPS.Ent := ⟨⟨("_law_deep", none), "_law_deep", "_law_deep", defArgs (top 49), defBody (top 49), defScope (top 49), [], []⟩, ["_law_part"], ["_law_part", "_law_one"]⟩
def e__law_program : MPS.Ent := ⟨⟨("_law_program", none), "_law_program", "_law_program", defArgs (top 50), defBody (top 50), defScope (top 50), [], []⟩, ["_law_d"], ["_law_d", "_law_found"]⟩
def e__law_loop : MPS.Ent := ⟨⟨("_law_loop", none), "_law_loop", "_law_loop", defArgs (top 51), defBody (top 51), defScope (top 51), [], []⟩, ["_law_d", "_law_step", "_law_base", "_law_many"], ["_law_d", "_law_step", "_law_base", "_law_many", "_law_body", "_law_call"]⟩
def e__law_again : MPS.Ent := ⟨⟨("_law_again", none), "_law_again", "_law_again", defArgs (top 52), defBody (top 52), defScope (top 52), [], []⟩, ["_law_d"], ["_law_d"]⟩
def e__law_long : MPS.Ent := ⟨⟨("_law_long", none), "_law_long", "_law_long", defArgs (top 53), defBody (top 53), defScope (top 53), [], []⟩, ["_law_d"], ["_law_d", "_law_again_here", "_law_some", "_law_body", "_law_bases", "_law_many", "_law_step", "_law_found", "_law_gos", "_law_handlers", "_law_k"]⟩
def e__law_any : MPS.Ent := ⟨⟨("_law_any", none), "_law_any", "_law_any", defArgs (top 54), defBody (top 54), defScope (top 54), [], []⟩, ["_law_d"], ["_law_d"]⟩
def e__law_join : MPS.Ent := ⟨⟨("_law_join", none), "_law_join", "_law_join", defArgs (top 55), defBody (top 55), defScope (top 55), [], []⟩, ["_law_words"], ["_law_words", "_law_found", "_law_word"]⟩
def e__law_paper : MPS.Ent := ⟨⟨("_law_paper", none), "_law_paper", "_law_paper", defArgs (top 56), defBody (top 56), defScope (top 56), [], []⟩, ["_law_part", "_law_k"], ["_law_part", "_law_k", "_law_word", "_law_inside", "_law_names", "_law_some", "_law_words", "_law_found", "_law_one", "_law_name_here", "_law_both"]⟩
def e__law_catches : MPS.Ent := ⟨⟨("_law_catches", none), "_law_catches", "_law_catches", defArgs (top 57), defBody (top 57), defScope (top 57), [], []⟩, ["_law_part"], ["_law_part", "_law_found", "_law_one"]⟩
def e__law_papers : MPS.Ent := ⟨⟨("_law_papers", none), "_law_papers", "_law_papers", defArgs (top 58), defBody (top 58), defScope (top 58), [], []⟩, ["_law_program_here"], ["_law_program_here", "_law_found", "_law_part", "_law_paper_here"]⟩
def e__law_handled : MPS.Ent := ⟨⟨("_law_handled", none), "_law_handled", "_law_handled", defArgs (top 59), defBody (top 59), defScope (top 59), [], []⟩, ["_law_d"], ["_law_d", "_law_names", "_law_room", "_law_go", "_law_some", "_law_shapes", "_law_handler", "_law_body", "_law_found", "_law_one", "_law_two", "_law_three", "_law_k"]⟩
def e__law_tall : MPS.Ent := ⟨⟨("_law_tall", none), "_law_tall", "_law_tall", defArgs (top 60), defBody (top 60), defScope (top 60), [], []⟩, ["_law_d"], ["_law_d", "_law_found", "_law_gos", "_law_turn", "_law_body", "_law_handler", "_law_more"]⟩
def e_law : MPS.Ent := ⟨⟨("law", none), "law", "law", defArgs (top 61), defBody (top 61), defScope (top 61), [], []⟩, ["_law_script"], ["_law_script", "_law_d", "_law_turn", "_law_program_here", "_law_due", "_law_again_here", "_law_number", "_law_found"]⟩
def T : List MPS.Ent := [e_is_number, e_is_kind, e_has_shape, e_names_in, e_fault_of, e_inner, e_need_program, e_Counter___init__, e_Counter_node, e_numbered, e_nodes, e_behind, e_either, e_inner_of, e_uses, e_word_of, e_paper_of, e_is_paper, e_shows_it, e_papers, e_shows, e__law_dice, e__law_next, e__law_like, e__law_name, e__law_leaf, e__law_with, e__law_free, e__law_expr, e__law_let, e__law_use, e__law_catch, e__law_size, e__law_deep, e__law_program, e__law_loop, e__law_again, e__law_long, e__law_any, e__law_join, e__law_paper, e__law_catches, e__law_papers, e__law_handled, e__law_tall, e_law]
def gs : List (Str × MPS.GE) := [("SHAPES", .gd [("num", "i"), ("name", "x"), ("fault", ""), ("add", "ee"), ("take", "ee"), ("less", "ee"), ("if", "eee"), ("let", "nee"), ("fun", "ne"), ("call", "ee"), ("say", "e"), ("box", "e"), ("look", "e"), ("put", "ee"), ("catch", "enne"), ("throw", "e"), ("go", "ee"), ("drop", "e"), ("last", "ee"), ("else", "ee")]), ("NAMES", .tup ["a", "b", "c", "d", "e", "f", "g", "h"]), ("MOST_NUMBER", .int (1000000)), ("MOST_PARTS", .int (200)), ("MOST_DEEP", .int (40)), ("QUIET", .str "quiet"), ("FREE", .str "free"), ("USED", .str "used"), ("ORDER", .tup ["quiet", "free", "used"]), ("LOUD", .tup ["call", "go", "drop", "throw"])]
def fl : List (Str × List Str) := [("Counter", ["seen"])]
def fr : List Str := ["len", "int", "str", "tuple", "list", "dict", "sorted", "max", "min", "sum", "set", "range", "zip", "isinstance", "bool"]
def ky0 : List MP.FK := [("is_number", none), ("is_kind", none), ("has_shape", none), ("names_in", none), ("fault_of", none), ("inner", none), ("need_program", none), ("Counter", some "__init__")]
def ky1 : List MP.FK := [("Counter", some "node"), ("numbered", none), ("nodes", none), ("behind", none), ("either", none), ("inner_of", none), ("uses", none), ("word_of", none)]
def ky2 : List MP.FK := [("paper_of", none), ("is_paper", none), ("shows_it", none), ("papers", none), ("shows", none), ("_law_dice", none), ("_law_next", none), ("_law_like", none)]
def ky3 : List MP.FK := [("_law_name", none), ("_law_leaf", none), ("_law_with", none), ("_law_free", none), ("_law_expr", none), ("_law_let", none), ("_law_use", none), ("_law_catch", none)]
def ky4 : List MP.FK := [("_law_size", none), ("_law_deep", none), ("_law_program", none), ("_law_loop", none), ("_law_again", none), ("_law_long", none), ("_law_any", none), ("_law_join", none)]
def ky5 : List MP.FK := [("_law_paper", none), ("_law_catches", none), ("_law_papers", none), ("_law_handled", none), ("_law_tall", none), ("law", none)]
def ky : List MP.FK := ky0 ++ ky1 ++ ky2 ++ ky3 ++ ky4 ++ ky5
def sg : MP.Sig := ⟨ky, fr⟩
abbrev R : PySem.W.OpenRow := PySem.W.OpenLaw.row PySem.Challenge.rw_whatremains_k14_papers
def hk : PySem.W.Hook := He.hookX 5 (MPS.faOf T gs fl sg.free) (T.map (·.d)) (MPS.tsOf gs) [] (MPS.exOf gs)
def ob (s : PySem.W.SharedT) : He.AlX := He.obsX 5 (MPS.faOf T gs fl sg.free) (T.map (·.d)) (MPS.tsOf gs) [] (MPS.exOf gs) (HandSHeadRun.getT s)
theorem ob_eq (s : PySem.W.SharedT) : ob s = hk.obs s.abs := He.obsX_eq (HandSHeadRun.getT_eq s)
def loose0 : List PySem.Str := ["RestError", "BadProgram", "BadPapers", "SHAPES", "NAMES", "MOST_NUMBER", "MOST_PARTS", "MOST_DEEP", "is_number", "is_kind", "has_shape", "names_in"]
def loose1 : List PySem.Str := ["fault_of", "inner", "need_program", "Counter", "numbered", "nodes", "QUIET", "FREE", "USED", "ORDER", "LOUD", "behind"]
def loose2 : List PySem.Str := ["either", "inner_of", "uses", "word_of", "paper_of", "is_paper", "shows_it", "papers", "shows", "_law_dice", "_law_next", "_law_like"]
def loose3 : List PySem.Str := ["_law_name", "_law_leaf", "_law_with", "_law_free", "_law_expr", "_law_let", "_law_use", "_law_catch", "_law_size", "_law_deep", "_law_program", "_law_loop"]
def loose4 : List PySem.Str := ["_law_again", "_law_long", "_law_any", "_law_join", "_law_paper", "_law_catches", "_law_papers", "_law_handled", "_law_tall"]
def loose : List PySem.Str := loose0 ++ loose1 ++ loose2 ++ loose3 ++ loose4
abbrev qv : Program := PySem.W.view R.prog [61]
abbrev LAWI : Nat := 61
end Hd


set_option linter.all false
set_option maxRecDepth 100000
set_option autoImplicit false
/-! W0: running the interpreter by rewriting: the plain proofs' own words. -/
namespace PL
open MP
open PySem (Str)
/-- it comes to a value, of which Q holds -/
def Is {α : Type} (r : R α) (Q : α → Store → Prop) : Prop := match r with
  | .ok a st => Q a st
  | _ => False
/-- what a body comes to -/
def fin : RS → R W
  | .nx _ st => .ok .non st
  | .ret w st => .ok w st
  | .exc x st => .exc x st
  | .bad => .bad
def tst {β : Type} (f : Bool → Store → R β) (w : W) (st : Store) : R β := match w with
  | .bl b => f b st
  | _ => .bad
def cnd {α : Type} (b : Bool) (x y : Unit → α) : α := if b then x () else y ()
def brS (x y : Unit → RS) (w : W) : RS := match w with
  | .bl true => x ()
  | .bl false => y ()
  | _ => .bad
section
variable {α β γ : Type}
theorem bind_cg {r r' : R α} {f : α → Store → R β} (h : r = r') : r.bind f = r'.bind f := by rw [h]
theorem bindS_cg {r r' : R α} {f : α → Store → RS} (h : r = r') : r.bindS f = r'.bindS f := by rw [h]
theorem rsbind_cg {r r' : RS} {f : Env → Store → RS} (h : r = r') : r.bind f = r'.bind f := by rw [h]
theorem is_cg {r r' : R α} {Q : α → Store → Prop} (h : r = r') : Is r Q = Is r' Q := by rw [h]
theorem cnd_cg {b b' : Bool} {x y : Unit → α} (h : b = b') : cnd b x y = cnd b' x y := by rw [h]
theorem brS_cg {b b' : W} {x y : Unit → RS} (h : b = b') : brS x y b = brS x y b' := by rw [h]
theorem tst_cg {w w' : W} {f : Bool → Store → R β} {st : Store} (h : w = w') : tst f w st = tst f w' st := by rw [h]
@[simp] theorem bind_ok {a : α} {st : Store} {f : α → Store → R β} : (R.ok a st).bind f = f a st := (rfl)
@[simp] theorem bindS_ok {a : α} {st : Store} {f : α → Store → RS} : (R.ok a st).bindS f = f a st := (rfl)
@[simp] theorem rs_nx {ρ : Env} {st : Store} {f : Env → Store → RS} : (RS.nx ρ st).bind f = f ρ st := (rfl)
@[simp] theorem rs_ret {a : W} {st : Store} {f : Env → Store → RS} : (RS.ret a st).bind f = .ret a st := (rfl)
@[simp] theorem fin_nx {ρ : Env} {st : Store} : fin (RS.nx ρ st) = .ok .non st := (rfl)
@[simp] theorem fin_ret {a : W} {st : Store} : fin (RS.ret a st) = .ok a st := (rfl)
@[simp] theorem tst_bl {b : Bool} {st : Store} {f : Bool → Store → R β} : tst f (.bl b) st = f b st := (rfl)
@[simp] theorem cnd_t {x y : Unit → α} : cnd true x y = x () := (rfl)
@[simp] theorem cnd_f {x y : Unit → α} : cnd false x y = y () := (rfl)
@[simp] theorem brS_t {x y : Unit → RS} : brS x y (.bl true) = x () := (rfl)
@[simp] theorem brS_f {x y : Unit → RS} : brS x y (.bl false) = y () := (rfl)
@[simp] theorem oR_some {a : α} {st : Store} : oR (some a) st = .ok a st := (rfl)
theorem is_ok {a : α} {st : Store} {Q : α → Store → Prop} : Is (.ok a st) Q ↔ Q a st := Iff.rfl
@[simp] theorem fin_bindS {r : R α} {f : α → Store → RS} : fin (r.bindS f) = r.bind fun a st => fin (f a st) := by cases r <;> rfl
@[simp] theorem bindS_bind {r : R α} {f : α → Store → RS} {g : Env → Store → RS} : (r.bindS f).bind g = r.bindS fun a st => (f a st).bind g := by cases r <;> rfl
@[simp] theorem bind_assoc {r : R α} {f : α → Store → R β} {g : β → Store → R γ} : (r.bind f).bind g = r.bind fun a st => (f a st).bind g := by cases r <;> rfl
@[simp] theorem bind_ret {r : R α} : (r.bind fun a st => R.ok a st) = r := by cases r <;> rfl
@[simp] theorem bind_bindS {r : R α} {f : α → Store → R β} {g : β → Store → RS} : (r.bind f).bindS g = r.bindS fun a st => (f a st).bindS g := by cases r <;> rfl
@[simp] theorem rs_assoc {r : RS} {f g : Env → Store → RS} : (r.bind f).bind g = r.bind fun a st => (f a st).bind g := by cases r <;> rfl
theorem test_eq {r : R W} {f : Bool → Store → R β} : r.test f = r.bind (tst f) := by cases r <;> rfl
theorem is_bind {r : R α} {f : α → Store → R β} {Q : β → Store → Prop} : Is (r.bind f) Q ↔ Is r fun a st => Is (f a st) Q := by
  cases r <;> exact Iff.rfl
theorem Is.mono {r : R α} {Q Q' : α → Store → Prop} (h : Is r Q) (k : ∀ a st, Q a st → Q' a st) : Is r Q' := by
  cases r with
  | ok a st => exact k a st h
  | exc => exact h
  | bad => exact h
theorem Is.bnd {r : R α} {f : α → Store → R β} {Q : α → Store → Prop} {Q' : β → Store → Prop} (h : Is r Q) (k : ∀ a st, Q a st → Is (f a st) Q') : Is (r.bind f) Q' := is_bind.mpr (h.mono k)
theorem Is.k {a : α} {st : Store} {Q : α → Store → Prop} (q : Q a st) : Is (.ok a st) Q := q
theorem Is.ex {r : R α} {Q : α → Store → Prop} (h : Is r Q) : ∃ a st, r = .ok a st ∧ Q a st := by
  cases r with
  | ok a st => exact ⟨a, st, rfl, h⟩
  | exc => exact h.elim
  | bad => exact h.elim
theorem Is.of {r : R α} {a : α} {st : Store} {Q : α → Store → Prop} (h : r = .ok a st) (q : Q a st) : Is r Q := by rw [h]; exact q
end
/-- a branch, and what comes behind it -/
theorem Is.br {b : Bool} {x y : Unit → RS} {f : Env → Store → RS} {Q : W → Store → Prop} (Inv : Env → Store → Prop)
    (hx : b = true → ∀ C : Env → Store → RS, (∀ ρ st, Inv ρ st → Is (fin (C ρ st)) Q) → Is (fin ((x ()).bind C)) Q)
    (hy : b = false → ∀ C : Env → Store → RS, (∀ ρ st, Inv ρ st → Is (fin (C ρ st)) Q) → Is (fin ((y ()).bind C)) Q)
    (hf : ∀ ρ st, Inv ρ st → Is (fin (f ρ st)) Q) : Is (fin ((brS x y (.bl b)).bind f)) Q := by
  cases b with
  | true => exact hx rfl f hf
  | false => exact hy rfl f hf
/-- a def is run -/
theorem call_run {P : Prog} {k : Nat} {f : Str} {d : Df} {ws : List W} {st : Store} (h : P.fn (f, none) = some d) : callF P (k + 1) (f, none) ws st = runD P (callF P k) d ws st := by
  cases k with
  | zero => rw [callF, h]; rfl
  | succ k => rw [callF, h]; rfl
theorem run_fin {P : Prog} {call : Call} {d : Df} {ws : List W} {st : Store} (hl : ws.length = d.ps) : runD P call d ws st = fin (evB P call d.body (ws.map some ++ List.replicate (d.n - d.ps) none) st) := by
  unfold runD
  rw [if_pos hl]
  cases evB P call d.body (ws.map some ++ List.replicate (d.n - d.ps) none) st <;> rfl
theorem call_fin {P : Prog} {k : Nat} {f : Str} {d : Df} {ws : List W} {st : Store} (h : P.fn (f, none) = some d) (hl : ws.length = d.ps) : callF P (k + 1) (f, none) ws st = fin (evB P (callF P k) d.body (ws.map some ++ List.replicate (d.n - d.ps) none) st) := by
  rw [call_run h, run_fin hl]
theorem call_is {P : Prog} {k : Nat} {f : Str} {d : Df} {ws : List W} {st : Store} {Q : W → Store → Prop} (h : P.fn (f, none) = some d) (hk : 0 < k) (hl : ws.length = d.ps) (hb : ∀ Q', (∀ a st, Q a st → Q' a st) → Is (fin (evB P (callF P (k - 1)) d.body (ws.map some ++ List.replicate (d.n - d.ps) none) st)) Q') : Is (callF P k (f, none) ws st) Q := by
  obtain ⟨j, rfl⟩ : ∃ j, k = j + 1 := ⟨k - 1, by omega⟩
  rw [call_fin h hl]
  exact hb Q fun _ _ h => h
/-- a method is run -/
theorem meth_run {P : Prog} {k : Nat} {c m : Str} {d : Df} {ws : List W} {st : Store} (h : P.fn (c, some m) = some d) (hm : (decide (m = "__init__")) = false) : callF P (k + 1) (c, some m) ws st = runD P (callF P k) d ws st := by
  cases k with
  | zero => rw [callF, h]; simp [isInit, hm]
  | succ k => rw [callF, h]; simp [isInit, hm]
theorem meth_is {P : Prog} {k : Nat} {c m : Str} {d : Df} {ws : List W} {st : Store} {Q : W → Store → Prop} (h : P.fn (c, some m) = some d) (hm : (decide (m = "__init__")) = false) (hk : 0 < k) (hl : ws.length = d.ps) (hb : ∀ Q', (∀ a st, Q a st → Q' a st) → Is (fin (evB P (callF P (k - 1)) d.body (ws.map some ++ List.replicate (d.n - d.ps) none) st)) Q') : Is (callF P k (c, some m) ws st) Q := by
  obtain ⟨j, rfl⟩ : ∃ j, k = j + 1 := ⟨k - 1, by omega⟩
  rw [meth_run h hm, run_fin hl]
  exact hb Q fun _ _ h => h
theorem init_is {P : Prog} {k : Nat} {c : Str} {d : Df} {ws : List W} {st : Store} {Q : W → Store → Prop} (h : P.fn (c, some "__init__") = some d) (hk : 1 < k) (hl : ws.length = d.ps) (hb : ∀ Q', (∀ a st, Q a st → Q' a st) → Is (fin (evB P (callF P (k - 2)) d.body (ws.map some ++ List.replicate (d.n - d.ps) none) st)) Q') : Is (callF P k (c, some "__init__") ws st) Q := by
  obtain ⟨j, rfl⟩ : ∃ j, k = j + 2 := ⟨k - 2, by omega⟩
  rw [callF, h]
  have : isInit (c, some "__init__") = true := by simp [isInit]
  simp only [this, if_true]
  rw [run_fin hl]
  exact hb Q fun _ _ h => h
/-! ### the interpreter's steps -/
section
variable {P : Prog} {call : Call} {ρ : Env} {st : Store} {e a b c : Ex} {es : Exs}
@[simp] theorem ev_cst {w : W} : evE P call (.cst w) ρ st = .ok w st := by rw [evE]
def vaR (o : Option (Option W)) (st : Store) : R W := match o with | some (some w) => .ok w st | _ => .bad
@[simp] theorem vaR_s {w : W} : vaR (some (some w)) st = .ok w st := (rfl)
@[simp] theorem ev_var {i : Nat} : evE P call (.var i) ρ st = vaR ρ[i]? st := by rw [evE]; rfl
@[simp] theorem ev_glo {x : Str} : evE P call (.glo x) ρ st = oR (lookS P.glos x) st := by rw [evE]
def tupR (ws : List W) (st : Store) : R W := if ws.length ≤ LIM then .ok (.tup ws) st else .bad
@[simp] theorem ev_tup : evE P call (.tup es) ρ st = (evEs P call es ρ st).bind tupR := by rw [evE]; rfl
def lstR (ws : List W) (st : Store) : R W := if ws.length ≤ LIM then new (.lst ws) st else .bad
@[simp] theorem ev_lst : evE P call (.lst es) ρ st = (evEs P call es ρ st).bind lstR := by rw [evE]; rfl
def dicR (kvs : List (Key × W)) (st : Store) : R W := if kvs.length ≤ 15 then new (.dic (mergeW [] kvs)) st else .bad
@[simp] theorem ev_dic {ps : Prs} : evE P call (.dic ps) ρ st = (evPs P call ps ρ st).bind dicR := by rw [evE]; rfl
@[simp] theorem ev_bin {op : BOp} : evE P call (.bin op a b) ρ st = (evE P call a ρ st).bind fun x st => (evE P call b ρ st).bind fun y st => bop op x y st := by rw [evE]
def negR (x : W) (st : Store) : R W := match x with | .int i => .ok (.int (-i)) st | _ => .bad
@[simp] theorem negR_int {i : Int} : negR (.int i) st = .ok (.int (-i)) st := (rfl)
@[simp] theorem ev_neg : evE P call (.neg a) ρ st = (evE P call a ρ st).bind negR := by rw [evE]; rfl
@[simp] theorem ev_not : evE P call (.not a) ρ st = (evE P call a ρ st).bind (tst fun b st => .ok (.bl (!b)) st) := by rw [evE, test_eq]
@[simp] theorem ev_and : evE P call (.and a b) ρ st = (evE P call a ρ st).bind (tst fun c st => cnd c (fun _ => (evE P call b ρ st).bind (tst fun d st => .ok (.bl d) st)) (fun _ => .ok (.bl false) st)) := by rw [evE, test_eq]; simp only [test_eq]; rfl
@[simp] theorem ev_or : evE P call (.or a b) ρ st = (evE P call a ρ st).bind (tst fun c st => cnd c (fun _ => .ok (.bl true) st) (fun _ => (evE P call b ρ st).bind (tst fun d st => .ok (.bl d) st))) := by rw [evE, test_eq]; simp only [test_eq]; rfl
@[simp] theorem ev_cmp {op : COp} : evE P call (.cmp op a b) ρ st = (evE P call a ρ st).bind fun x st => (evE P call b ρ st).bind fun y st => cop op x y st := by rw [evE]
@[simp] theorem ev_chn {o1 o2 : COp} : evE P call (.chn o1 o2 a b c) ρ st = (evE P call a ρ st).bind fun x st => (evE P call b ρ st).bind fun y st => (cop o1 x y st).bind (tst fun k st => cnd k (fun _ => (evE P call c ρ st).bind fun z st => cop o2 y z st) (fun _ => .ok (.bl false) st)) := by rw [evE]; simp only [test_eq]; rfl
@[simp] theorem ev_ife : evE P call (.ife c a b) ρ st = (evE P call c ρ st).bind (tst fun k st => cnd k (fun _ => evE P call a ρ st) (fun _ => evE P call b ρ st)) := by rw [evE, test_eq]; rfl
@[simp] theorem ev_ix : evE P call (.ix a b) ρ st = (evE P call a ρ st).bind fun x st => (evE P call b ρ st).bind fun y st => ixW x y st := by rw [evE]
@[simp] theorem ev_sl {lo hi : Op} : evE P call (.sl a lo hi) ρ st = (evE P call a ρ st).bind fun x st => (evO P call lo ρ st).bind fun l st => (evO P call hi ρ st).bind fun h st => slW x l h st := by rw [evE]
@[simp] theorem ev_rev : evE P call (.rev a) ρ st = (evE P call a ρ st).bind revW := by rw [evE]
def fldR (P : Prog) (f : Str) (x : W) (st : Store) : R W := match x with
    | .ref r => (match st[r]? with
      | some (.ins c fs) => if ((lookS P.flds c).getD []).contains f then oR (fget fs f) st else .bad
      | _ => .bad)
    | _ => .bad
@[simp] theorem ev_fld {f : Str} : evE P call (.fld a f) ρ st = (evE P call a ρ st).bind (fldR P f) := by rw [evE]; rfl
@[simp] theorem ev_call {f : Str} : evE P call (.call f es) ρ st = (evEs P call es ρ st).bind fun ws st => call (f, none) ws st := by rw [evE]
def makR (r : Nat) (v : W) (st : Store) : R W := match v with | .non => .ok (.ref r) st | _ => .bad
@[simp] theorem makR_non {r : Nat} : makR r .non st = .ok (.ref r) st := (rfl)
@[simp] theorem ev_mak {f : Str} : evE P call (.mak f es) ρ st = (evEs P call es ρ st).bind fun ws st => (call (f, some "__init__") (.ref st.length :: ws) (st ++ [.ins f []])).bind (makR st.length) := by rw [evE]; rfl
def mthR (m : Str) (g : Nat → Str → Store → R W) (x : W) (st : Store) : R W := match x with
    | .ref r => (match st[r]? with
      | some (.ins c fs) => if fget fs m = none ∧ m ≠ "__init__" then g r c st else .bad
      | _ => .bad)
    | _ => .bad
@[simp] theorem ev_mth {m : Str} : evE P call (.mth a m es) ρ st = (evE P call a ρ st).bind (mthR m fun r c st => (evEs P call es ρ st).bind fun ws st => call (c, some m) (.ref r :: ws) st) := by rw [evE]; rfl
@[simp] theorem ev_blt {b : Blt} : evE P call (.blt b es) ρ st = (evEs P call es ρ st).bind fun ws st => bltW b ws st := by rw [evE]
def bmtR (m : Bmt) (x : W) (st : Store) (ws : List W) (st1 : Store) : R W := if kindW x st1 = kindW x st then bmtW m x ws st1 else .bad
@[simp] theorem ev_bmt {m : Bmt} : evE P call (.bmt m a es) ρ st = (evE P call a ρ st).bind fun x st => (evEs P call es ρ st).bind (bmtR m x st) := by rw [evE]; rfl
def gixR (P : Prog) (x : Str) (w : W) (st : Store) : R W := match lookS P.glos x, w with
    | some (.tup l), .str z => (match allStrs l with
      | some q => oR ((idx8 z q).map fun (j : Nat) => W.int j) st
      | none => .bad)
    | _, _ => .bad
@[simp] theorem ev_gix {x : Str} : evE P call (.gix x a) ρ st = (evE P call a ρ st).bind (gixR P x) := by rw [evE]; rfl
@[simp] theorem ev_isi {c : Cl} : evE P call (.isi a c) ρ st = (evE P call a ρ st).bind fun x st => oR ((isiW x c st).map W.bl) st := by rw [evE]
/-- a comprehension's turn -/
def lcT (P : Prog) (call : Call) (elt : Ex) (own : List Nat) (tg : Tg) (cond : Op) (ρ : Env) (w : W) (st : Store) : R (Option W) :=
  (evG P call tg w (wipe ρ own) st).bind fun ρ' st => (evC P call cond ρ' st).bind fun b st => cnd b (fun _ => (evE P call elt ρ' st).bind fun y st => .ok (some y) st) (fun _ => .ok none st)
@[simp] theorem ev_lc {elt : Ex} {own : List Nat} {tg : Tg} {it : It} {cond : Op} : evE P call (.lc elt own tg it cond) ρ st = (evI P call it ρ st).bind fun k st => (loopC k (lcT P call elt own tg cond ρ) k.items [] st).bind fun ws st => new (.lst ws) st := by rw [evE]; rfl
@[simp] theorem ev_esn : evEs P call .nil ρ st = .ok [] st := by rw [evEs]
@[simp] theorem ev_esc : evEs P call (.cons e es) ρ st = (evE P call e ρ st).bind fun w st => (evEs P call es ρ st).bind fun ws st => .ok (w :: ws) st := by rw [evEs]
@[simp] theorem ev_psn : evPs P call .nil ρ st = .ok [] st := by rw [evPs]
def psR (x w : W) (r : List (Key × W)) (st : Store) : R (List (Key × W)) := match keyW x with | some k => .ok ((k, w) :: r) st | none => .bad
@[simp] theorem psR_s {x : Str} {w : W} {r : List (Key × W)} : psR (.str x) w r st = .ok ((.inr x, w) :: r) st := (rfl)
@[simp] theorem psR_i {x : Int} {w : W} {r : List (Key × W)} : psR (.int x) w r st = .ok ((.inl x, w) :: r) st := (rfl)
@[simp] theorem ev_psc {k v : Ex} {r : Prs} : evPs P call (.cons k v r) ρ st = (evE P call k ρ st).bind fun x st => (evE P call v ρ st).bind fun w st => (evPs P call r ρ st).bind (psR x w) := by rw [evPs]; rfl
@[simp] theorem ev_on : evO P call .none ρ st = .ok none st := by rw [evO]
def intR (w : W) (st : Store) : R (Option Int) := match w with | .int i => .ok (some i) st | _ => .bad
@[simp] theorem intR_i {i : Int} : intR (.int i) st = .ok (some i) st := (rfl)
@[simp] theorem ev_os : evO P call (.some e) ρ st = (evE P call e ρ st).bind intR := by rw [evO]; rfl
@[simp] theorem ev_cn : evC P call .none ρ st = .ok true st := by rw [evC]
@[simp] theorem ev_cs : evC P call (.some e) ρ st = (evE P call e ρ st).bind (tst fun b st => .ok b st) := by rw [evC, test_eq]
@[simp] theorem ev_iseq : evI P call (.seq e) ρ st = (evE P call e ρ st).bind fun w st => oR (walkOf w st) st := by rw [evI]
def rngR (w : W) (st : Store) : R Walk := match w with
    | .int j => if -(2 ^ 62) ≤ j ∧ j < 2 ^ 62 then .ok ⟨(List.range j.toNat).map fun (i : Nat) => .int i, []⟩ st else .bad
    | _ => .bad
@[simp] theorem ev_irng : evI P call (.range1 e) ρ st = (evE P call e ρ st).bind rngR := by rw [evI]; rfl
theorem rngR_i {n : Nat} (h : n < 2 ^ 62) : rngR (.int (n : Int)) st = .ok ⟨(List.range n).map fun (i : Nat) => .int i, []⟩ st := by
  unfold rngR
  simp only
  rw [if_pos ⟨by omega, by omega⟩]
  simp
def rng2R (v w : W) (st : Store) : R Walk := match v, w with
    | .int i, .int j => if -(2 ^ 62) ≤ i ∧ i < 2 ^ 62 ∧ -(2 ^ 62) ≤ j ∧ j < 2 ^ 62 then .ok ⟨(List.range (j - i).toNat).map fun (k : Nat) => .int (i + k), []⟩ st else .bad
    | _, _ => .bad
@[simp] theorem ev_irng2 : evI P call (.range2 a b) ρ st = (evE P call a ρ st).bind fun v st => (evE P call b ρ st).bind fun w st => rng2R v w st := by rw [evI]; rfl
def enuR (w : W) (st : Store) : R Walk := match w, walkOf w st with
    | .ref _, some k => .ok ⟨enumL 0 k.items, k.stays⟩ st
    | _, _ => .bad
@[simp] theorem ev_ienum : evI P call (.enum e) ρ st = (evE P call e ρ st).bind fun w st => enuR w st := by rw [evI]; rfl
def zipR (v w : W) (st : Store) : R Walk := match v, w, walkOf v st, walkOf w st with
    | .ref _, .ref _, some k, some l => .ok ⟨zipL k.items l.items, k.stays ++ l.stays⟩ st
    | _, _, _, _ => .bad
@[simp] theorem ev_izip : evI P call (.zip a b) ρ st = (evE P call a ρ st).bind fun v st => (evE P call b ρ st).bind fun w st => zipR v w st := by rw [evI]; rfl
@[simp] theorem ev_gn {i : Nat} {w : W} : evG P call (.name i) w ρ st = .ok (ρ.set i (some w)) st := by rw [evG]
def gfR (P : Prog) (f : Str) (w : W) (ρ : Env) (x : W) (st : Store) : R Env := match x with
    | .ref r => (match st[r]? with
      | some (.ins c fs) => if ((lookS P.flds c).getD []).contains f ∧ fs.length < 900 then .ok ρ (st.set r (.ins c (fput fs f w))) else .bad
      | _ => .bad)
    | _ => .bad
@[simp] theorem ev_gf {o : Ex} {f : Str} {w : W} : evG P call (.fld o f) w ρ st = (evE P call o ρ st).bind (gfR P f w ρ) := by rw [evG]; rfl
@[simp] theorem ev_gs {o i : Ex} {w : W} : evG P call (.sub o i) w ρ st = (evE P call o ρ st).bind fun x st => (evE P call i ρ st).bind fun y st => (setW x y w st).bind fun _ st => .ok ρ st := by rw [evG]
def gtR (P : Prog) (call : Call) (n : Nat) (ts : Tgs) (w : W) (ρ : Env) (st : Store) : R Env := match seqOf w st with
    | some ws => if ws.length = n then evGs P call ts ws ρ st else .bad
    | none => .bad
@[simp] theorem gtR_t {n : Nat} {ts : Tgs} {ws : List W} : gtR P call n ts (.tup ws) ρ st = if ws.length = n then evGs P call ts ws ρ st else .bad := (rfl)
@[simp] theorem ev_gt {n : Nat} {ts : Tgs} {w : W} : evG P call (.tup n ts) w ρ st = gtR P call n ts w ρ st := by rw [evG]; rfl
@[simp] theorem ev_gsn : evGs P call .nil [] ρ st = .ok ρ st := by rw [evGs]
@[simp] theorem ev_gsc {t : Tg} {ts : Tgs} {w : W} {ws : List W} : evGs P call (.cons t ts) (w :: ws) ρ st = (evG P call t w ρ st).bind fun ρ st => evGs P call ts ws ρ st := by rw [evGs]
@[simp] theorem ev_sasg {t : Tg} : evS P call (.asg t e) ρ st = (evE P call e ρ st).bindS fun w st => (evG P call t w ρ st).bindS fun ρ' st => .nx ρ' st := by rw [evS]
@[simp] theorem ev_sexp : evS P call (.exp e) ρ st = (evE P call e ρ st).bindS fun _ st => .nx ρ st := by rw [evS]
@[simp] theorem ev_sret : evS P call (.ret e) ρ st = (evE P call e ρ st).bindS fun w st => .ret w st := by rw [evS]
@[simp] theorem ev_sretN : evS P call .retN ρ st = .ret .non st := by rw [evS]
@[simp] theorem ev_spass : evS P call .pass ρ st = .nx ρ st := by rw [evS]
@[simp] theorem ev_site {x y : Sms} : evS P call (.ite c x y) ρ st = (evE P call c ρ st).bindS fun w st => brS (fun _ => evB P call x ρ st) (fun _ => evB P call y ρ st) w := by
  rw [evS]
  congr
/-- a for's turn -/
def forT (P : Prog) (call : Call) (t : Tg) (b : Sms) (w : W) (ρ : Env) (st : Store) : RS := (evG P call t w ρ st).bindS fun ρ' st => evB P call b ρ' st
@[simp] theorem ev_sfor {t : Tg} {it : It} {b : Sms} : evS P call (.for t it b) ρ st = (evI P call it ρ st).bindS fun k st => loopF k (forT P call t b) k.items ρ st := by rw [evS]; rfl
@[simp] theorem ev_swhl {b : Sms} : evS P call (.whl c b) ρ st = loopW (evE P call c) (evB P call b) P.turns ρ st := by rw [evS]
@[simp] theorem ev_bnil : evB P call .nil ρ st = .nx ρ st := by rw [evB]
@[simp] theorem ev_bcons {s : Sm} {r : Sms} : evB P call (.cons s r) ρ st = (evS P call s ρ st).bind fun ρ st => evB P call r ρ st := by rw [evB]
end
/-! ### loops -/
section
variable {P : Prog} {call : Call}
theorem loopF_is {Q : W → Store → Prop} {k : Walk} {body : W → Env → Store → RS} {g : Env → Store → RS} (Inv : List W → Env → Store → Prop)
    (hold : ∀ l ρ st, Inv l ρ st → k.holds st = true)
    (step : ∀ w r ρ st, Inv (w :: r) ρ st → ∀ C : Env → Store → RS, (∀ ρ' st', Inv r ρ' st' → Is (fin (C ρ' st')) Q) → Is (fin ((body w ρ st).bind C)) Q)
    (last : ∀ ρ st, Inv [] ρ st → Is (fin (g ρ st)) Q) (l : List W) (ρ : Env) (st : Store) (h : Inv l ρ st) : Is (fin ((loopF k body l ρ st).bind g)) Q := by
  induction l generalizing ρ st with
  | nil =>
    rw [loopF, if_pos (hold _ _ _ h)]
    exact last ρ st h
  | cons w r ih =>
    rw [loopF, if_pos (hold _ _ _ h), rs_assoc]
    exact step w r ρ st h _ fun ρ' st' h' => ih ρ' st' h'
theorem loopC_is {α : Type} {Q : α → Store → Prop} {k : Walk} {turn : W → Store → R (Option W)} {g : List W → Store → R α} (Inv : List W → List W → Store → Prop)
    (hold : ∀ l acc st, Inv l acc st → k.holds st = true) (small : ∀ w l acc st, Inv (w :: l) acc st → acc.length < LIM)
    (step : ∀ w r acc st, Inv (w :: r) acc st → ∀ Qt : Option W → Store → Prop, (∀ y st', Inv r (acc ++ [y]) st' → Qt (some y) st') → (∀ st', Inv r acc st' → Qt none st') → Is (turn w st) Qt)
    (last : ∀ acc st, Inv [] acc st → Is (g acc st) Q) (l acc : List W) (st : Store) (h : Inv l acc st) : Is ((loopC k turn l acc st).bind g) Q := by
  induction l generalizing acc st with
  | nil =>
    rw [loopC, if_pos (hold _ _ _ h)]
    exact last acc st h
  | cons w r ih =>
    rw [loopC, if_pos (hold _ _ _ h), bind_assoc]
    refine (step w r acc st h (fun o st' => match o with | some y => Inv r (acc ++ [y]) st' | none => Inv r acc st') (fun _ _ h => h) (fun _ h => h)).bnd fun o st' h' => ?_
    cases o with
    | none => exact ih acc st' h'
    | some y =>
      simp only
      rw [if_pos (small _ _ _ _ h)]
      exact ih (acc ++ [y]) st' h'
/-- .. whose turns leave the store as it is -/
theorem loopC_pure {k : Walk} {turn : W → Store → R (Option W)} {f : W → Option W} {l acc : List W} {st : Store} (hold : k.holds st = true) (small : acc.length + l.length ≤ LIM)
    (step : ∀ w ∈ l, turn w st = .ok (f w) st) : loopC k turn l acc st = .ok (acc ++ l.filterMap f) st := by
  induction l generalizing acc with
  | nil => rw [loopC, if_pos hold]; simp
  | cons w r ih =>
    rw [loopC, if_pos hold, step w List.mem_cons_self]
    simp only [List.length_cons] at small
    cases h : f w with
    | none =>
      show loopC k turn r acc st = _
      rw [ih (by omega) fun w hw => step w (List.mem_cons_of_mem _ hw), List.filterMap_cons_none h]
    | some y =>
      show (if acc.length < LIM then loopC k turn r (acc ++ [y]) st else .bad) = _
      rw [if_pos (by omega), ih (by simp; omega) fun w hw => step w (List.mem_cons_of_mem _ hw), List.filterMap_cons_some h]
      simp
theorem loopW_is {Q : W → Store → Prop} {c : Env → Store → R W} {body g : Env → Store → RS} (Inv : Nat → Env → Store → Prop)
    (step : ∀ n ρ st, Inv n ρ st → ∀ Qc : W → Store → Prop, (∀ b st1, (b = false → Is (fin (g ρ st1)) Q) → (b = true → ∀ C : Env → Store → RS, (∀ m ρ' st', m < n → Inv m ρ' st' → Is (fin (C ρ' st')) Q) → Is (fin ((body ρ st1).bind C)) Q) → Qc (.bl b) st1) → Is (c ρ st) Qc)
    (N n : Nat) (hn : n < N) (ρ : Env) (st : Store) (h : Inv n ρ st) : Is (fin ((loopW c body N ρ st).bind g)) Q := by
  induction N generalizing n ρ st with
  | zero => omega
  | succ N ih =>
    rw [loopW, bindS_bind, fin_bindS]
    refine (step n ρ st h (fun w st1 => ∃ b, w = .bl b ∧ (b = false → Is (fin (g ρ st1)) Q) ∧ (b = true → ∀ C : Env → Store → RS, (∀ m ρ' st', m < n → Inv m ρ' st' → Is (fin (C ρ' st')) Q) → Is (fin ((body ρ st1).bind C)) Q)) fun b st1 h0 h1 => ⟨b, rfl, h0, h1⟩).bnd fun w st1 hw => ?_
    obtain ⟨b, rfl, h0, h1⟩ := hw
    cases b with
    | false => exact h0 rfl
    | true =>
      show Is (fin (((body ρ st1).bind fun ρ2 st2 => loopW c body N ρ2 st2).bind g)) Q
      rw [rs_assoc]
      exact h1 rfl _ fun m ρ' st' hm h' => ih m (by omega) ρ' st' h'
end
theorem beqs_refl : ∀ ws : List W, W.beqs ws ws = true := by
  have : ∀ n, (∀ w : W, sizeOf w < n → W.beq w w = true) ∧ ∀ ws : List W, sizeOf ws < n → W.beqs ws ws = true := by
    intro n
    induction n with
    | zero => exact ⟨fun _ h => by omega, fun _ h => by omega⟩
    | succ n ih =>
      refine ⟨fun w h => ?_, fun ws h => ?_⟩
      · cases w with
        | tup a => unfold W.beq; exact ih.2 a (by simp at h; omega)
        | fro a => unfold W.beq; exact ih.2 a (by simp at h; omega)
        | _ => unfold W.beq; simp
      · cases ws with
        | nil => rfl
        | cons a r =>
          unfold W.beqs
          simp at h
          rw [ih.1 a (by omega), ih.2 r (by omega)]
          rfl
  exact fun ws => (this (sizeOf ws + 1)).2 ws (by omega)
section
variable {st : Store}
@[simp] theorem holds_nil {l : List W} : (Walk.mk l []).holds st = true := (rfl)
theorem holds_one {l : List W} {r : Nat} {ws : List W} (h : st[r]? = some (.lst ws)) : (Walk.mk l [(r, ws)]).holds st = true := by
  simp [Walk.holds, h, beqs_refl]
theorem holds_two {l : List W} {r q : Nat} {ws vs : List W} (h : st[r]? = some (.lst ws)) (h' : st[q]? = some (.lst vs)) : (Walk.mk l [(r, ws), (q, vs)]).holds st = true := by
  simp [Walk.holds, h, h', beqs_refl]
end
/-! ### operations -/
section
variable {st : Store} {i j : Int} {x y : Str} {ws vs : List W} {w v : W} {a b : Bool} {n k : Nat}
theorem tupR_ok (h : ws.length ≤ LIM) : tupR ws st = .ok (.tup ws) st := if_pos h
theorem lstR_ok (h : ws.length ≤ LIM) : lstR ws st = .ok (.ref st.length) (st ++ [.lst ws]) := if_pos h
@[simp] theorem new_ok {o : SO} : new o st = .ok (.ref st.length) (st ++ [o]) := (rfl)
@[simp] theorem tupR0 : tupR [] st = .ok (.tup []) st := (rfl)
@[simp] theorem tupR1 {a : W} : tupR [a] st = .ok (.tup [a]) st := (rfl)
@[simp] theorem tupR2 {a b : W} : tupR [a, b] st = .ok (.tup [a, b]) st := (rfl)
@[simp] theorem tupR3 {a b c : W} : tupR [a, b, c] st = .ok (.tup [a, b, c]) st := (rfl)
@[simp] theorem tupR4 {a b c d : W} : tupR [a, b, c, d] st = .ok (.tup [a, b, c, d]) st := (rfl)
@[simp] theorem tupR5 {a b c d e : W} : tupR [a, b, c, d, e] st = .ok (.tup [a, b, c, d, e]) st := (rfl)
@[simp] theorem tupR6 {a b c d e f : W} : tupR [a, b, c, d, e, f] st = .ok (.tup [a, b, c, d, e, f]) st := (rfl)
@[simp] theorem lstR0 : lstR [] st = .ok (.ref st.length) (st ++ [.lst []]) := (rfl)
@[simp] theorem lstR1 {a : W} : lstR [a] st = .ok (.ref st.length) (st ++ [.lst [a]]) := (rfl)
@[simp] theorem lstR2 {a b : W} : lstR [a, b] st = .ok (.ref st.length) (st ++ [.lst [a, b]]) := (rfl)
@[simp] theorem lstR3 {a b c : W} : lstR [a, b, c] st = .ok (.ref st.length) (st ++ [.lst [a, b, c]]) := (rfl)
@[simp] theorem lstR4 {a b c d : W} : lstR [a, b, c, d] st = .ok (.ref st.length) (st ++ [.lst [a, b, c, d]]) := (rfl)
@[simp] theorem lstR5 {a b c d e : W} : lstR [a, b, c, d, e] st = .ok (.ref st.length) (st ++ [.lst [a, b, c, d, e]]) := (rfl)
@[simp] theorem lstR6 {a b c d e f : W} : lstR [a, b, c, d, e, f] st = .ok (.ref st.length) (st ++ [.lst [a, b, c, d, e, f]]) := (rfl)
@[simp] theorem lstR7 {a b c d e f g : W} : lstR [a, b, c, d, e, f, g] st = .ok (.ref st.length) (st ++ [.lst [a, b, c, d, e, f, g]]) := (rfl)
@[simp] theorem lstR8 {a b c d e f g h : W} : lstR [a, b, c, d, e, f, g, h] st = .ok (.ref st.length) (st ++ [.lst [a, b, c, d, e, f, g, h]]) := (rfl)
theorem toD_str {n : Nat} (h : okS x = true) : toD st n (.str x) = some (.str x) := by
  cases n <;> simp [toD, h]
@[simp] theorem toD_int {n : Nat} : toD st n (.int i) = some (.int i) := by cases n <;> rfl
@[simp] theorem toD_bl {n : Nat} : toD st n (.bl a) = some (.bl a) := by cases n <;> rfl
@[simp] theorem toD_non {n : Nat} : toD st n .non = some .non := by cases n <;> rfl
theorem eq_str (hx : okS x = true) (hy : okS y = true) : cop .eq (.str x) (.str y) st = .ok (.bl (x == y)) st := by
  simp [cop, eqW, toD_str hx, toD_str hy, D.eqv]
theorem ne_str (hx : okS x = true) (hy : okS y = true) : cop .ne (.str x) (.str y) st = .ok (.bl (!(x == y))) st := by
  simp [cop, eqW, toD_str hx, toD_str hy, D.eqv]
theorem eq_str_non (hx : okS x = true) : cop .eq (.str x) .non st = .ok (.bl false) st := by
  simp [cop, eqW, toD_str hx, D.eqv]
theorem eq_non_str (hx : okS x = true) : cop .eq .non (.str x) st = .ok (.bl false) st := by
  simp [cop, eqW, toD_str hx, D.eqv]
theorem ne_str_non (hx : okS x = true) : cop .ne (.str x) .non st = .ok (.bl true) st := by
  simp [cop, eqW, toD_str hx, D.eqv]
theorem ne_non_str (hx : okS x = true) : cop .ne .non (.str x) st = .ok (.bl true) st := by
  simp [cop, eqW, toD_str hx, D.eqv]
@[simp] theorem eq_non : cop .eq .non .non st = .ok (.bl true) st := by simp [cop, eqW, D.eqv]
@[simp] theorem ne_non : cop .ne .non .non st = .ok (.bl false) st := by simp [cop, eqW, D.eqv]
@[simp] theorem eq_int : cop .eq (.int i) (.int j) st = .ok (.bl (decide (i = j))) st := by simp [cop, eqW, D.eqv]; rfl
@[simp] theorem ne_int : cop .ne (.int i) (.int j) st = .ok (.bl (!decide (i = j))) st := by simp [cop, eqW, D.eqv]; rfl
@[simp] theorem eq_bl : cop .eq (.bl a) (.bl b) st = .ok (.bl (a == b)) st := by simp [cop, eqW, D.eqv]
@[simp] theorem ne_bl : cop .ne (.bl a) (.bl b) st = .ok (.bl (!(a == b))) st := by simp [cop, eqW, D.eqv]
@[simp] theorem lt_int : cop .lt (.int i) (.int j) st = .ok (.bl (decide (i < j))) st := (rfl)
@[simp] theorem le_int : cop .le (.int i) (.int j) st = .ok (.bl (decide (i ≤ j))) st := (rfl)
@[simp] theorem gt_int : cop .gt (.int i) (.int j) st = .ok (.bl (decide (j < i))) st := (rfl)
@[simp] theorem ge_int : cop .ge (.int i) (.int j) st = .ok (.bl (decide (j ≤ i))) st := (rfl)
@[simp] theorem is_non : cop .is w .non st = .ok (.bl (isNil w)) st := (rfl)
@[simp] theorem isnot_non : cop .isnot w .non st = .ok (.bl (!isNil w)) st := (rfl)
@[simp] theorem isNil_non : isNil .non = true := (rfl)
@[simp] theorem isNil_str : isNil (.str x) = false := (rfl)
@[simp] theorem isNil_tup : isNil (.tup ws) = false := (rfl)
@[simp] theorem isNil_int : isNil (.int i) = false := (rfl)
@[simp] theorem add_int : bop .add (.int i) (.int j) st = .ok (.int (i + j)) st := (rfl)
@[simp] theorem sub_int : bop .sub (.int i) (.int j) st = .ok (.int (i - j)) st := (rfl)
theorem mul_int (h : -(2 ^ 64) < j ∧ j < 2 ^ 64) : bop .mul (.int i) (.int j) st = .ok (.int (i * j)) st := by
  have : smul i j = true := by unfold smul; simp; omega
  simp [bop, this]
theorem mul_int' (h : -(2 ^ 64) < i ∧ i < 2 ^ 64) : bop .mul (.int i) (.int j) st = .ok (.int (i * j)) st := by
  have : smul i j = true := by unfold smul; simp; omega
  simp [bop, this]
theorem mod_int (h : 0 < j) : bop .mod (.int i) (.int j) st = .ok (.int (i % j)) st := if_pos h
theorem fdiv_int (h : 0 < j ∧ j < 1073741824) : bop .fdiv (.int i) (.int j) st = .ok (.int (i / j)) st := if_pos h
theorem add_tup (h : ws.length + vs.length ≤ LIM) : bop .add (.tup ws) (.tup vs) st = .ok (.tup (ws ++ vs)) st := if_pos h
theorem add_lst {r q : Nat} (h1 : st[r]? = some (.lst ws)) (h2 : st[q]? = some (.lst vs)) (h : ws.length + vs.length ≤ LIM) : bop .add (.ref r) (.ref q) st = .ok (.ref st.length) (st ++ [.lst (ws ++ vs)]) := by
  simp [bop, h1, h2, h]
@[simp] theorem len_tup : bltW .len [.tup ws] st = .ok (.int ws.length) st := (rfl)
@[simp] theorem len_fro : bltW .len [.fro ws] st = .ok (.int ws.length) st := (rfl)
theorem len_str (h : x.length ≤ LIM) : bltW .len [.str x] st = .ok (.int x.length) st := by simp [bltW, h]
theorem len_ref {n : Nat} (h : st[n]? = some (.lst ws)) : bltW .len [.ref n] st = .ok (.int ws.length) st := by simp [bltW, seqOf, h]
@[simp] theorem int_int : bltW .int [.int i] st = .ok (.int i) st := (rfl)
@[simp] theorem int_bl : bltW .int [.bl a] st = .ok (.int (if a then 1 else 0)) st := (rfl)
@[simp] theorem max_int : bltW .max [.int i, .int j] st = .ok (.int (if j > i then j else i)) st := (rfl)
@[simp] theorem min_int : bltW .min [.int i, .int j] st = .ok (.int (if j < i then j else i)) st := (rfl)
@[simp] theorem tuple_tup : bltW .tuple [.tup ws] st = .ok (.tup ws) st := (rfl)
theorem tuple_ref {n : Nat} (h : st[n]? = some (.lst ws)) : bltW .tuple [.ref n] st = .ok (.tup ws) st := by simp [bltW, seqOf, h]
theorem place_nat {n k : Nat} (h : k < n) : place n (k : Int) = some k := by
  unfold place
  rw [if_pos (Int.natCast_nonneg k), if_pos (by omega)]
  simp
theorem at_nat {α : Type} {xs : List α} {k : Nat} {v : α} (h : xs[k]? = some v) : at? xs (k : Int) = some v := by
  have hk := (List.getElem?_eq_some_iff.mp h).1
  simp [at?, place_nat hk, h]
@[simp] theorem at0 {α : Type} {v : α} {xs : List α} : at? (v :: xs) 0 = some v := at_nat (k := 0) rfl
@[simp] theorem at1 {α : Type} {a v : α} {xs : List α} : at? (a :: v :: xs) 1 = some v := at_nat (k := 1) rfl
@[simp] theorem at2 {α : Type} {a b v : α} {xs : List α} : at? (a :: b :: v :: xs) 2 = some v := at_nat (k := 2) rfl
@[simp] theorem at3 {α : Type} {a b c v : α} {xs : List α} : at? (a :: b :: c :: v :: xs) 3 = some v := at_nat (k := 3) rfl
@[simp] theorem at4 {α : Type} {a b c d v : α} {xs : List α} : at? (a :: b :: c :: d :: v :: xs) 4 = some v := at_nat (k := 4) rfl
@[simp] theorem at5 {α : Type} {a b c d e v : α} {xs : List α} : at? (a :: b :: c :: d :: e :: v :: xs) 5 = some v := at_nat (k := 5) rfl
@[simp] theorem at6 {α : Type} {a b c d e f v : α} {xs : List α} : at? (a :: b :: c :: d :: e :: f :: v :: xs) 6 = some v := at_nat (k := 6) rfl
@[simp] theorem at7 {α : Type} {a b c d e f g v : α} {xs : List α} : at? (a :: b :: c :: d :: e :: f :: g :: v :: xs) 7 = some v := at_nat (k := 7) rfl
@[simp] theorem at8 {α : Type} {a b c d e f g h v : α} {xs : List α} : at? (a :: b :: c :: d :: e :: f :: g :: h :: v :: xs) 8 = some v := at_nat (k := 8) rfl
@[simp] theorem at9 {α : Type} {a b c d e f g h i v : α} {xs : List α} : at? (a :: b :: c :: d :: e :: f :: g :: h :: i :: v :: xs) 9 = some v := at_nat (k := 9) rfl
@[simp] theorem at10 {α : Type} {a b c d e f g h i j v : α} {xs : List α} : at? (a :: b :: c :: d :: e :: f :: g :: h :: i :: j :: v :: xs) 10 = some v := at_nat (k := 10) rfl
@[simp] theorem at11 {α : Type} {a b c d e f g h i j k v : α} {xs : List α} : at? (a :: b :: c :: d :: e :: f :: g :: h :: i :: j :: k :: v :: xs) 11 = some v := at_nat (k := 11) rfl
@[simp] theorem at12 {α : Type} {a b c d e f g h i j k l v : α} {xs : List α} : at? (a :: b :: c :: d :: e :: f :: g :: h :: i :: j :: k :: l :: v :: xs) 12 = some v := at_nat (k := 12) rfl
@[simp] theorem ix_tup : ixW (.tup ws) (.int i) st = oR (at? ws i) st := (rfl)
@[simp] theorem ix_fro : ixW (.fro ws) (.int i) st = oR (at? ws i) st := (rfl)
theorem ix_lst {n : Nat} (e : st[n]? = some (.lst ws)) : ixW (.ref n) (.int i) st = oR (at? ws i) st := by
  simp [ixW, e]
@[simp] theorem isi_tup_tuple : isiW (.tup ws) .tuple st = some true := (rfl)
@[simp] theorem isi_str_tuple : isiW (.str x) .tuple st = some false := (rfl)
@[simp] theorem isi_int_tuple : isiW (.int i) .tuple st = some false := (rfl)
@[simp] theorem isi_non_tuple : isiW .non .tuple st = some false := (rfl)
@[simp] theorem isi_bl_tuple : isiW (.bl a) .tuple st = some false := (rfl)
@[simp] theorem isi_str_str : isiW (.str x) .str st = some true := (rfl)
@[simp] theorem isi_tup_str : isiW (.tup ws) .str st = some false := (rfl)
@[simp] theorem isi_int_str : isiW (.int i) .str st = some false := (rfl)
@[simp] theorem isi_non_str : isiW .non .str st = some false := (rfl)
@[simp] theorem isi_int_int : isiW (.int i) .int st = some true := (rfl)
@[simp] theorem isi_tup_int : isiW (.tup ws) .int st = some false := (rfl)
@[simp] theorem isi_non_int : isiW .non .int st = some false := (rfl)
@[simp] theorem isi_str_int : isiW (.str x) .int st = some false := (rfl)
@[simp] theorem isi_int_bool : isiW (.int i) .bool st = some false := (rfl)
@[simp] theorem isi_tup_bool : isiW (.tup ws) .bool st = some false := (rfl)
@[simp] theorem isi_str_bool : isiW (.str x) .bool st = some false := (rfl)
@[simp] theorem isi_non_bool : isiW .non .bool st = some false := (rfl)
@[simp] theorem isi_bl_bool : isiW (.bl a) .bool st = some true := (rfl)
@[simp] theorem isi_tup_list : isiW (.tup ws) .list st = some false := (rfl)
@[simp] theorem isi_str_list : isiW (.str x) .list st = some false := (rfl)
@[simp] theorem isi_int_list : isiW (.int i) .list st = some false := (rfl)
@[simp] theorem isi_non_list : isiW .non .list st = some false := (rfl)
theorem isi_ref {n : Nat} {c : Cl} (h : st[n]? = some (.lst ws)) (hc : c = .tuple ∨ c = .list ∨ c = .int ∨ c = .str ∨ c = .bool) : isiW (.ref n) c st = some (decide (c = .list)) := by
  rcases hc with rfl | rfl | rfl | rfl | rfl <;> simp [isiW, h]
@[simp] theorem walk_tup : walkOf (.tup ws) st = some ⟨ws, []⟩ := (rfl)
@[simp] theorem walk_fro : walkOf (.fro ws) st = some ⟨ws, []⟩ := (rfl)
theorem walk_ref {n : Nat} (h : st[n]? = some (.lst ws)) : walkOf (.ref n) st = some ⟨ws, [(n, ws)]⟩ := by simp [walkOf, h]
theorem append_ref {n : Nat} {st0 : Store} (h0 : st0[n]? = some (.lst vs)) (h : st[n]? = some (.lst ws)) (hl : ws.length < LIM) : bmtR .append (.ref n) st0 [w] st = .ok .non (st.set n (.lst (ws ++ [w]))) := by
  simp [bmtR, kindW, h, h0, bmtW, hl]
theorem get_app {m : Nat} {o : SO} (h : st[m]? = some o) (l : List SO) : (st ++ l)[m]? = some o := by
  have := (List.getElem?_eq_some_iff.mp h).1
  rw [List.getElem?_append_left this]
  exact h
@[simp] theorem get_app0 {o : SO} {l : List SO} : (st ++ o :: l)[st.length]? = some o := by simp
@[simp] theorem get_app1 {o a : SO} {l : List SO} : (st ++ a :: o :: l)[st.length + 1]? = some o := by simp [List.getElem?_append]
@[simp] theorem get_app2 {o a b : SO} {l : List SO} : (st ++ a :: b :: o :: l)[st.length + 2]? = some o := by simp [List.getElem?_append]
@[simp] theorem get_app3 {o a b c : SO} {l : List SO} : (st ++ a :: b :: c :: o :: l)[st.length + 3]? = some o := by simp [List.getElem?_append]
theorem len_of {m : Nat} {o : SO} (h : st[m]? = some o) : m < st.length := (List.getElem?_eq_some_iff.mp h).1
end
/-- all but M stays as it was -/
def Fr (M : List Nat) (st st' : Store) : Prop := ∀ i o, i ∉ M → st[i]? = some o → st'[i]? = some o
section
variable {M N : List Nat} {st st' st'' : Store} {i : Nat} {o : SO}
theorem Fr.refl : Fr M st st := fun _ _ _ h => h
theorem Fr.trans (h : Fr M st st') (k : Fr M st' st'') : Fr M st st'' := fun i o hi h0 => k i o hi (h i o hi h0)
theorem Fr.wide (h : Fr M st st') (k : ∀ i ∈ M, i ∈ N) : Fr N st st' := fun i o hi h0 => h i o (fun hm => hi (k i hm)) h0
theorem Fr.app {l : List SO} : Fr M st (st ++ l) := fun i o _ h => get_app h l
theorem Fr.set (h : i ∈ M) : Fr M st (st.set i o) := fun j p hj h0 => by
  rw [List.getElem?_set_ne (by rintro rfl; exact hj h)]
  exact h0
theorem Fr.get (h : Fr M st st') (hi : i ∉ M) (h0 : st[i]? = some o) : st'[i]? = some o := h i o hi h0
/-- what is new may be changed -/
theorem Fr.fresh {j : Nat} (h : Fr (j :: M) st st') (hj : st[j]? = none) : Fr M st st' := fun i p hi h0 => h i p (by
  intro hm
  rcases List.mem_cons.mp hm with rfl | hm
  · rw [hj] at h0; cases h0
  · exact hi hm) h0
theorem ne_of {j : Nat} {p : SO} (h : st[i]? = some o) (k : st[j]? = some p) (hne : o ≠ p) : i ≠ j := fun e => by
  subst e
  rw [h] at k
  exact hne (Option.some.inj k)
end
end PL


set_option linter.all false
set_option maxRecDepth 100000
set_option autoImplicit false
/-! ST: the texts of the program, numbered. -/
namespace PL
open MP
open PySem (Str)
def sw0 : List Str := ["a", "b", "c", "d", "e", "f", "g", "h", "num", "name"]
def sw1 : List Str := ["fault", "add", "take", "less", "if", "let", "fun", "call", "say", "box"]
def sw2 : List Str := ["look", "put", "catch", "throw", "go", "drop", "last", "else", "i", "x"]
def sw3 : List Str := ["n", "ee", "eee", "nee", "ne", "enne", "", "number", "rest", "quiet"]
def sw4 : List Str := ["free", "used", "many", "deep", "shape", "open", "worth", "long", "told", "look at"]
def sw5 : List Str := ["end", "second", "keep", "deeds", "mark", "back", "-", " ", "0", "jump"]
def sw6 : List Str := ["single", "pair", "unless", "bind", "unbind", "over", "left", "done"]
def swl : List Str := sw0 ++ sw1 ++ sw2 ++ sw3 ++ sw4 ++ sw5 ++ sw6
def sw (i : Nat) : Str := (swl[i]?).getD ""
abbrev swN : Nat := 68
theorem okS_all : (swl.all okS) = true := by decide +kernel
theorem sw_len : swl.length = swN := by decide +kernel
@[simp] theorem okS_sw (i : Nat) : okS (sw i) = true := by
  unfold sw
  cases h : swl[i]? with
  | none => decide +kernel
  | some x => exact List.all_eq_true.mp okS_all x (List.mem_of_getElem? h)
theorem sw_nodup : swl.Nodup := by decide +kernel
theorem sw_get {i : Nat} (h : i < swN) : swl[i]? = some (sw i) := by
  have : i < swl.length := by rw [sw_len]; exact h
  unfold sw
  rw [List.getElem?_eq_getElem this]
  rfl
theorem sw_inj {i j : Nat} (hi : i < swN) (hj : j < swN) : sw i = sw j ↔ i = j := by
  constructor
  · intro e
    have h1 := sw_get hi
    have h2 := sw_get hj
    rw [e, ← h2] at h1
    exact (List.getElem?_inj (by rw [sw_len]; exact hi) sw_nodup).mp h1
  · rintro rfl; rfl
theorem sw_beq {i j : Nat} (hi : i < swN) (hj : j < swN) : (sw i == sw j) = decide (i = j) := by
  have h := sw_inj hi hj
  by_cases e : i = j
  · subst e; simp
  · rw [decide_eq_false e]; exact beq_eq_false_iff_ne.mpr (fun x => e (h.mp x))
end PL


set_option linter.all false
set_option maxRecDepth 100000
namespace PL
open MP
open PySem (Str)
abbrev bdE : Ex := .neg (.cst .non)
def shn : List (Nat × Nat) := [(8, 28), (9, 29), (10, 36), (11, 31), (12, 31), (13, 31), (14, 32), (15, 33), (16, 34), (17, 31), (18, 4), (19, 4), (20, 4), (21, 31), (22, 35), (23, 4), (24, 31), (25, 4), (26, 31), (27, 31)]
def shp : List (Str × Str) := shn.map fun p => (sw p.1, sw p.2)
def c_is_number : Df := ⟨1, 1, (.cons (.ret (.and (.isi (.var 0) .int) (.not (.isi (.var 0) .bool)))) .nil)⟩
def c_is_kind : Df := ⟨2, 2, (.cons (.ite (.cmp .eq (.var 0) (.cst (.str (sw 28)))) (.cons (.ret (.call "is_number" (.cons (.var 1) .nil))) .nil) .nil) (.cons (.ret (.or (.cmp .eq (.var 0) (.cst (.str (sw 4)))) (.isi (.var 1) .str))) .nil))⟩
def c_has_shape : Df := ⟨1, 3, (.cons (.ite (.or (.not (.isi (.var 0) .tuple)) (.or (.cmp .eq (.blt .len (.cons (.var 0) .nil)) (.cst (.int 0))) (.or (.not (.isi (.ix (.var 0) (.cst (.int 0))) .str)) (.cmp .notin (.ix (.var 0) (.cst (.int 0))) (.glo "SHAPES"))))) (.cons (.ret (.cst (.bl false))) .nil) .nil) (.cons (.asg (.name 1) (.ix (.glo "SHAPES") (.ix (.var 0) (.cst (.int 0))))) (.cons (.ite (.cmp .ne (.blt .len (.cons (.var 0) .nil)) (.bin .add (.blt .len (.cons (.var 1) .nil)) (.cst (.int 1)))) (.cons (.ret (.cst (.bl false))) .nil) .nil) (.cons (.ret (.cmp .eq (.lc (.var 2) [2] (.name 2) (.range1 (.blt .len (.cons (.var 1) .nil))) (.some (.not (.call "is_kind" (.cons (.ix (.var 1) (.var 2)) (.cons (.ix (.var 0) (.bin .add (.var 2) (.cst (.int 1)))) .nil)))))) (.lst .nil))) .nil))))⟩
def c_names_in : Df := ⟨1, 3, (.cons (.asg (.name 1) (.ix (.glo "SHAPES") (.ix (.var 0) (.cst (.int 0))))) (.cons (.ret (.lc (.ix (.var 0) (.bin .add (.var 2) (.cst (.int 1)))) [2] (.name 2) (.range1 (.blt .len (.cons (.var 1) .nil))) (.some (.cmp .isin (.ix (.var 1) (.var 2)) (.tup (.cons (.cst (.str (sw 30))) (.cons (.cst (.str (sw 29))) .nil))))))) .nil))⟩
def c_fault_of : Df := ⟨4, 6, (.cons (.ite (.cmp .ge (.var 1) (.glo "MOST_PARTS")) (.cons (.ret (.cst (.str (sw 42)))) .nil) .nil) (.cons (.ite (.cmp .gt (.var 2) (.glo "MOST_DEEP")) (.cons (.ret (.cst (.str (sw 43)))) .nil) .nil) (.cons (.ite (.not (.call "has_shape" (.cons (.var 0) .nil))) (.cons (.ret (.cst (.str (sw 44)))) .nil) .nil) (.cons (.ite (.and (.cmp .eq (.ix (.var 0) (.cst (.int 0))) (.cst (.str (sw 8)))) (.not (.chn .le .le (.bin .sub (.cst (.int 0)) (.glo "MOST_NUMBER")) (.ix (.var 0) (.cst (.int 1))) (.glo "MOST_NUMBER")))) (.cons (.ret (.cst (.str (sw 37)))) .nil) .nil) (.cons (.asg (.name 4) (.call "names_in" (.cons (.var 0) .nil))) (.cons (.ite (.or (.cmp .ne (.lc (.var 5) [5] (.name 5) (.seq (.var 4)) (.some (.cmp .notin (.var 5) (.glo "NAMES")))) (.lst .nil)) (.cmp .ne (.blt .lenset (.cons (.var 4) .nil)) (.blt .len (.cons (.var 4) .nil)))) (.cons (.ret (.cst (.str (sw 9)))) .nil) .nil) (.cons (.ret (.ife (.and (.cmp .eq (.ix (.var 0) (.cst (.int 0))) (.cst (.str (sw 9)))) (.cmp .notin (.ix (.var 0) (.cst (.int 1))) (.var 3))) (.cst (.str (sw 45))) (.cst .non))) .nil)))))))⟩
def c_inner : Df := ⟨2, 5, (.cons (.asg (.name 2) (.ix (.var 0) (.cst (.int 0)))) (.cons (.ite (.cmp .eq (.var 2) (.cst (.str (sw 15)))) (.cons (.ret (.lst (.cons (.tup (.cons (.ix (.var 0) (.cst (.int 2))) (.cons (.var 1) .nil))) (.cons (.tup (.cons (.ix (.var 0) (.cst (.int 3))) (.cons (.bin .add (.var 1) (.tup (.cons (.ix (.var 0) (.cst (.int 1))) .nil))) .nil))) .nil)))) .nil) .nil) (.cons (.ite (.cmp .eq (.var 2) (.cst (.str (sw 16)))) (.cons (.ret (.lst (.cons (.tup (.cons (.ix (.var 0) (.cst (.int 2))) (.cons (.bin .add (.var 1) (.tup (.cons (.ix (.var 0) (.cst (.int 1))) .nil))) .nil))) .nil))) .nil) .nil) (.cons (.ite (.cmp .eq (.var 2) (.cst (.str (sw 22)))) (.cons (.ret (.lst (.cons (.tup (.cons (.ix (.var 0) (.cst (.int 1))) (.cons (.var 1) .nil))) (.cons (.tup (.cons (.ix (.var 0) (.cst (.int 4))) (.cons (.bin .add (.var 1) (.tup (.cons (.ix (.var 0) (.cst (.int 2))) (.cons (.ix (.var 0) (.cst (.int 3))) .nil)))) .nil))) .nil)))) .nil) .nil) (.cons (.asg (.name 3) (.ix (.glo "SHAPES") (.var 2))) (.cons (.ret (.lc (.tup (.cons (.ix (.var 0) (.bin .add (.var 4) (.cst (.int 1)))) (.cons (.var 1) .nil))) [4] (.name 4) (.range1 (.blt .len (.cons (.var 3) .nil))) (.some (.cmp .eq (.ix (.var 3) (.var 4)) (.cst (.str (sw 4))))))) .nil))))))⟩
def c_need_program : Df := ⟨1, 10, (.cons (.asg (.name 1) (.lst (.cons (.tup (.cons (.var 0) (.cons (.cst (.int 0)) (.cons (.tup .nil) .nil)))) .nil))) (.cons (.asg (.name 2) (.cst (.int 0))) (.cons (.whl (.cmp .ne (.var 1) (.lst .nil)) (.cons (.asg (.tup 3 (.cons (.name 5) (.cons (.name 6) (.cons (.name 7) .nil)))) (.bmt .pop (.var 1) .nil)) (.cons (.asg (.name 3) (.call "fault_of" (.cons (.var 5) (.cons (.var 2) (.cons (.var 6) (.cons (.var 7) .nil)))))) (.cons (.ite (.cmp .isnot (.var 3) (.cst .non)) (.cons (.exp bdE) .nil) .nil) (.cons (.asg (.name 4) (.lc (.tup (.cons (.var 8) (.cons (.bin .add (.var 6) (.cst (.int 1))) (.cons (.var 9) .nil)))) [8, 9] (.tup 2 (.cons (.name 8) (.cons (.name 9) .nil))) (.seq (.call "inner" (.cons (.var 5) (.cons (.var 7) .nil)))) .none)) (.cons (.exp (.bmt .extend (.var 1) (.cons (.rev (.var 4)) .nil))) (.cons (.asg (.name 2) (.bin .add (.var 2) (.cst (.int 1)))) .nil))))))) .nil)))⟩
def c_Counter___init__ : Df := ⟨1, 1, (.cons (.asg (.fld (.var 0) "seen") (.cst (.int 0))) .nil)⟩
def c_Counter_node : Df := ⟨2, 6, (.cons (.asg (.name 2) (.fld (.var 0) "seen")) (.cons (.asg (.fld (.var 0) "seen") (.bin .add (.fld (.var 0) "seen") (.cst (.int 1)))) (.cons (.asg (.name 3) (.ix (.glo "SHAPES") (.ix (.var 1) (.cst (.int 0))))) (.cons (.asg (.name 4) (.lst (.cons (.ix (.var 1) (.cst (.int 0))) (.cons (.var 2) .nil)))) (.cons (.for (.name 5) (.range1 (.blt .len (.cons (.var 3) .nil))) (.cons (.exp (.bmt .append (.var 4) (.cons (.ife (.cmp .eq (.ix (.var 3) (.var 5)) (.cst (.str (sw 4)))) (.mth (.var 0) "node" (.cons (.ix (.var 1) (.bin .add (.var 5) (.cst (.int 1)))) .nil)) (.ix (.var 1) (.bin .add (.var 5) (.cst (.int 1))))) .nil))) .nil)) (.cons (.ret (.blt .tuple (.cons (.var 4) .nil))) .nil))))))⟩
def c_numbered : Df := ⟨1, 1, (.cons (.ret (.mth (.mak "Counter" .nil) "node" (.cons (.var 0) .nil))) .nil)⟩
def c_nodes : Df := ⟨2, 4, (.cons (.asg (.name 2) (.ife (.cmp .eq (.ix (.var 0) (.cst (.int 0))) (.var 1)) (.lst (.cons (.var 0) .nil)) (.lst .nil))) (.cons (.for (.name 3) (.seq (.sl (.var 0) (.some (.cst (.int 2))) .none)) (.cons (.ite (.isi (.var 3) .tuple) (.cons (.asg (.name 2) (.bin .add (.var 2) (.call "nodes" (.cons (.var 3) (.cons (.var 1) .nil))))) .nil) .nil) .nil)) (.cons (.ret (.var 2)) .nil)))⟩
def c_behind : Df := ⟨2, 2, (.cons (.ite (.or (.cmp .is (.var 0) (.cst .non)) (.cmp .is (.var 1) (.cst .non))) (.cons (.ret (.cst .non)) .nil) .nil) (.cons (.ite (.cmp .eq (.var 0) (.glo "QUIET")) (.cons (.ret (.var 1)) .nil) .nil) (.cons (.ite (.cmp .eq (.var 1) (.glo "USED")) (.cons (.ret (.cst .non)) .nil) .nil) (.cons (.ret (.var 0)) .nil))))⟩
def c_either : Df := ⟨2, 2, (.cons (.ite (.or (.cmp .is (.var 0) (.cst .non)) (.cmp .is (.var 1) (.cst .non))) (.cons (.ret (.cst .non)) .nil) .nil) (.cons (.ret (.ix (.glo "ORDER") (.blt .max (.cons (.gix "ORDER" (.var 0)) (.cons (.gix "ORDER" (.var 1)) .nil))))) .nil))⟩
def c_inner_of : Df := ⟨2, 4, (.cons (.asg (.name 2) (.ix (.var 0) (.cst (.int 0)))) (.cons (.ite (.cmp .eq (.var 2) (.cst (.str (sw 15)))) (.cons (.ret (.lst (.cons (.tup (.cons (.ix (.var 0) (.cst (.int 3))) (.cons (.var 1) .nil))) (.cons (.tup (.cons (.ix (.var 0) (.cst (.int 4))) (.cons (.ife (.cmp .eq (.ix (.var 0) (.cst (.int 2))) (.var 1)) (.cst .non) (.var 1)) .nil))) .nil)))) .nil) .nil) (.cons (.ite (.cmp .eq (.var 2) (.cst (.str (sw 16)))) (.cons (.ret (.lst (.cons (.tup (.cons (.ix (.var 0) (.cst (.int 3))) (.cons (.ife (.cmp .eq (.ix (.var 0) (.cst (.int 2))) (.var 1)) (.cst .non) (.var 1)) .nil))) .nil))) .nil) .nil) (.cons (.ite (.cmp .eq (.var 2) (.cst (.str (sw 22)))) (.cons (.ret (.lst (.cons (.tup (.cons (.ix (.var 0) (.cst (.int 2))) (.cons (.var 1) .nil))) (.cons (.tup (.cons (.ix (.var 0) (.cst (.int 5))) (.cons (.ife (.cmp .isin (.var 1) (.tup (.cons (.ix (.var 0) (.cst (.int 3))) (.cons (.ix (.var 0) (.cst (.int 4))) .nil)))) (.cst .non) (.var 1)) .nil))) .nil)))) .nil) .nil) (.cons (.ret (.lc (.tup (.cons (.var 3) (.cons (.var 1) .nil))) [3] (.name 3) (.seq (.sl (.var 0) (.some (.cst (.int 2))) .none)) (.some (.isi (.var 3) .tuple)))) .nil)))))⟩
def c_uses : Df := ⟨2, 2, (.cons (.ret (.and (.cmp .isin (.ix (.var 0) (.cst (.int 0))) (.tup (.cons (.cst (.str (sw 24))) (.cons (.cst (.str (sw 25))) .nil)))) (.and (.cmp .eq (.ix (.ix (.var 0) (.cst (.int 2))) (.cst (.int 0))) (.cst (.str (sw 9)))) (.cmp .eq (.ix (.ix (.var 0) (.cst (.int 2))) (.cst (.int 2))) (.var 1))))) .nil)⟩
def c_word_of : Df := ⟨3, 6, (.cons (.asg (.name 3) (.ix (.var 0) (.cst (.int 0)))) (.cons (.ite (.cmp .eq (.var 3) (.cst (.str (sw 9)))) (.cons (.ret (.ife (.cmp .eq (.ix (.var 0) (.cst (.int 2))) (.var 1)) (.cst .non) (.glo "QUIET"))) .nil) .nil) (.cons (.ite (.call "uses" (.cons (.var 0) (.cons (.var 1) .nil))) (.cons (.ret (.ife (.cmp .isin (.sl (.var 2) (.some (.cst (.int 1))) .none) (.tup (.cons (.lst .nil) (.cons (.lst (.cons (.glo "QUIET") .nil)) .nil)))) (.glo "USED") (.cst .non))) .nil) .nil) (.cons (.ite (.cmp .eq (.var 3) (.cst (.str (sw 16)))) (.cons (.ret (.ife (.cmp .isin (.ix (.var 2) (.cst (.int 0))) (.tup (.cons (.glo "QUIET") (.cons (.glo "FREE") .nil)))) (.glo "QUIET") (.cst .non))) .nil) .nil) (.cons (.ite (.cmp .eq (.var 3) (.cst (.str (sw 14)))) (.cons (.ret (.call "behind" (.cons (.ix (.var 2) (.cst (.int 0))) (.cons (.call "either" (.cons (.ix (.var 2) (.cst (.int 1))) (.cons (.ix (.var 2) (.cst (.int 2))) .nil))) .nil)))) .nil) .nil) (.cons (.ite (.cmp .eq (.var 3) (.cst (.str (sw 22)))) (.cons (.ret (.ife (.cmp .isin (.ix (.var 2) (.cst (.int 1))) (.tup (.cons (.glo "QUIET") (.cons (.glo "FREE") .nil)))) (.call "behind" (.cons (.ife (.cmp .eq (.ix (.var 2) (.cst (.int 0))) (.glo "QUIET")) (.glo "FREE") (.ix (.var 2) (.cst (.int 0)))) (.cons (.glo "FREE") .nil))) (.cst .non))) .nil) .nil) (.cons (.asg (.name 4) (.glo "QUIET")) (.cons (.for (.name 5) (.seq (.var 2)) (.cons (.asg (.name 4) (.call "behind" (.cons (.var 4) (.cons (.var 5) .nil)))) .nil)) (.cons (.ret (.ife (.and (.cmp .eq (.var 4) (.glo "QUIET")) (.cmp .isin (.var 3) (.glo "LOUD"))) (.glo "FREE") (.var 4))) .nil)))))))))⟩
def c_paper_of : Df := ⟨2, 5, (.cons (.asg (.name 2) (.lc (.call "paper_of" (.cons (.var 3) (.cons (.var 4) .nil))) [3, 4] (.tup 2 (.cons (.name 3) (.cons (.name 4) .nil))) (.seq (.call "inner_of" (.cons (.var 0) (.cons (.var 1) .nil)))) .none)) (.cons (.ret (.tup (.cons (.call "word_of" (.cons (.var 0) (.cons (.var 1) (.cons (.lc (.ix (.var 3) (.cst (.int 0))) [3] (.name 3) (.seq (.var 2)) .none) .nil)))) (.cons (.blt .tuple (.cons (.var 2) .nil)) .nil)))) .nil))⟩
def c_is_paper : Df := ⟨3, 6, (.cons (.asg (.name 3) (.call "inner_of" (.cons (.var 0) (.cons (.var 1) .nil)))) (.cons (.ite (.or (.not (.isi (.var 2) .tuple)) (.or (.cmp .ne (.blt .len (.cons (.var 2) .nil)) (.cst (.int 2))) (.or (.not (.isi (.ix (.var 2) (.cst (.int 1))) .tuple)) (.cmp .ne (.blt .len (.cons (.ix (.var 2) (.cst (.int 1))) .nil)) (.blt .len (.cons (.var 3) .nil)))))) (.cons (.ret (.cst (.bl false))) .nil) .nil) (.cons (.for (.name 4) (.range1 (.blt .len (.cons (.var 3) .nil))) (.cons (.ite (.not (.call "is_paper" (.cons (.ix (.ix (.var 3) (.var 4)) (.cst (.int 0))) (.cons (.ix (.ix (.var 3) (.var 4)) (.cst (.int 1))) (.cons (.ix (.ix (.var 2) (.cst (.int 1))) (.var 4)) .nil))))) (.cons (.ret (.cst (.bl false))) .nil) .nil) .nil)) (.cons (.ret (.cmp .eq (.ix (.var 2) (.cst (.int 0))) (.call "word_of" (.cons (.var 0) (.cons (.var 1) (.cons (.lc (.ix (.var 5) (.cst (.int 0))) [5] (.name 5) (.seq (.ix (.var 2) (.cst (.int 1)))) .none) .nil)))))) .nil))))⟩
def c_shows_it : Df := ⟨2, 2, (.cons (.ret (.and (.call "is_paper" (.cons (.ix (.var 0) (.cst (.int 5))) (.cons (.ix (.var 0) (.cst (.int 4))) (.cons (.var 1) .nil)))) (.cmp .isnot (.ix (.var 1) (.cst (.int 0))) (.cst .non)))) .nil)⟩
def c_papers : Df := ⟨1, 4, (.cons (.exp (.call "need_program" (.cons (.var 0) .nil))) (.cons (.asg (.name 1) (.lst .nil)) (.cons (.for (.name 2) (.seq (.call "nodes" (.cons (.call "numbered" (.cons (.var 0) .nil)) (.cons (.cst (.str (sw 22))) .nil)))) (.cons (.asg (.name 3) (.call "paper_of" (.cons (.ix (.var 2) (.cst (.int 5))) (.cons (.ix (.var 2) (.cst (.int 4))) .nil)))) (.cons (.exp (.bmt .append (.var 1) (.cons (.ife (.cmp .is (.ix (.var 3) (.cst (.int 0))) (.cst .non)) (.cst .non) (.var 3)) .nil))) .nil))) (.cons (.ret (.var 1)) .nil))))⟩
def c_shows : Df := ⟨3, 4, (.cons (.exp (.call "need_program" (.cons (.var 0) .nil))) (.cons (.asg (.name 3) (.call "nodes" (.cons (.call "numbered" (.cons (.var 0) .nil)) (.cons (.cst (.str (sw 22))) .nil)))) (.cons (.ite (.not (.chn .le .lt (.cst (.int 0)) (.var 1) (.blt .len (.cons (.var 3) .nil)))) (.cons (.exp bdE) .nil) .nil) (.cons (.ret (.call "shows_it" (.cons (.ix (.var 3) (.var 1)) (.cons (.var 2) .nil)))) .nil))))⟩
def c__law_dice : Df := ⟨1, 3, (.cons (.asg (.name 1) (.cst (.int 0))) (.cons (.for (.name 2) (.seq (.var 0)) (.cons (.asg (.name 1) (.bin .mod (.bin .add (.bin .add (.bin .mul (.var 1) (.cst (.int 48271))) (.bin .mul (.bin .mod (.var 2) (.cst (.int 2147483647))) (.cst (.int 69621)))) (.cst (.int 11))) (.cst (.int 2147483647)))) .nil)) (.cons (.ret (.lst (.cons (.var 0) (.cons (.cst (.int 0)) (.cons (.bin .mul (.var 1) (.blt .int (.cons (.cmp .gt (.blt .len (.cons (.var 0) .nil)) (.cst (.int 2))) .nil))) (.cons (.cst (.int 0)) .nil)))))) .nil)))⟩
def c__law_next : Df := ⟨2, 4, (.cons (.ite (.cmp .gt (.ix (.var 0) (.cst (.int 3))) (.cst (.int 0))) (.cons (.asg (.name 2) (.bin .mod (.ix (.var 0) (.cst (.int 3))) (.var 1))) (.cons (.asg (.sub (.var 0) (.cst (.int 3))) (.bin .fdiv (.ix (.var 0) (.cst (.int 3))) (.var 1))) (.cons (.ret (.var 2)) .nil))) .nil) (.cons (.asg (.sub (.var 0) (.cst (.int 1))) (.bin .add (.ix (.var 0) (.cst (.int 1))) (.cst (.int 1)))) (.cons (.ite (.cmp .le (.ix (.var 0) (.cst (.int 1))) (.blt .len (.cons (.ix (.var 0) (.cst (.int 0))) .nil))) (.cons (.asg (.name 3) (.ix (.ix (.var 0) (.cst (.int 0))) (.bin .sub (.ix (.var 0) (.cst (.int 1))) (.cst (.int 1))))) (.cons (.asg (.sub (.var 0) (.cst (.int 3))) (.ife (.cmp .ge (.var 3) (.bin .pow (.cst (.int 10)) (.cst (.int 18)))) (.bin .fdiv (.var 3) (.var 1)) (.cst (.int 0)))) (.cons (.ret (.bin .mod (.var 3) (.var 1))) .nil))) .nil) (.cons (.asg (.sub (.var 0) (.cst (.int 2))) (.bin .mod (.bin .mul (.ix (.var 0) (.cst (.int 2))) (.cst (.int 48271))) (.cst (.int 2147483647)))) (.cons (.ret (.bin .mod (.bin .fdiv (.ix (.var 0) (.cst (.int 2))) (.cst (.int 7))) (.var 1))) .nil)))))⟩
def c__law_like : Df := ⟨2, 3, (.cons (.ite (.isi (.var 1) .bool) (.cons (.ret (.and (.isi (.var 0) .bool) (.cmp .eq (.var 0) (.var 1)))) .nil) .nil) (.cons (.ite (.isi (.var 1) .str) (.cons (.ret (.and (.isi (.var 0) .str) (.cmp .eq (.var 0) (.var 1)))) .nil) .nil) (.cons (.ite (.isi (.var 1) .int) (.cons (.ret (.and (.isi (.var 0) .int) (.and (.not (.isi (.var 0) .bool)) (.cmp .eq (.var 0) (.var 1))))) .nil) .nil) (.cons (.ite (.cmp .is (.var 1) (.cst .non)) (.cons (.ret (.cmp .is (.var 0) (.cst .non))) .nil) .nil) (.cons (.ite (.or (.cmp .ne (.isi (.var 1) .tuple) (.isi (.var 0) .tuple)) (.cmp .ne (.isi (.var 1) .list) (.isi (.var 0) .list))) (.cons (.ret (.cst (.bl false))) .nil) .nil) (.cons (.ite (.cmp .ne (.blt .len (.cons (.var 0) .nil)) (.blt .len (.cons (.var 1) .nil))) (.cons (.ret (.cst (.bl false))) .nil) .nil) (.cons (.for (.name 2) (.range1 (.blt .len (.cons (.var 1) .nil))) (.cons (.ite (.not (.call "_law_like" (.cons (.ix (.var 0) (.var 2)) (.cons (.ix (.var 1) (.var 2)) .nil)))) (.cons (.ret (.cst (.bl false))) .nil) .nil) .nil)) (.cons (.ret (.cst (.bl true))) .nil))))))))⟩
def c__law_name : Df := ⟨3, 5, (.cons (.asg (.name 3) (.lc (.var 4) [4] (.name 4) (.seq (.blt .sorted (.cons (.var 1) .nil))) (.some (.cmp .isin (.ix (.var 1) (.var 4)) (.var 2))))) (.cons (.ret (.ife (.cmp .ne (.var 3) (.lst .nil)) (.ix (.var 3) (.call "_law_next" (.cons (.var 0) (.cons (.blt .len (.cons (.var 3) .nil)) .nil)))) (.cst .non))) .nil))⟩
def c__law_leaf : Df := ⟨2, 4, (.cons (.asg (.name 2) (.ix (.lst (.cons (.tup (.cons (.cst (.str (sw 37))) .nil)) (.cons (.tup (.cons (.cst (.str (sw 37))) (.cons (.cst (.str (sw 16))) (.cons (.cst (.str (sw 38))) (.cons (.cst (.str (sw 19))) .nil))))) .nil))) (.blt .int (.cons (.cmp .eq (.call "_law_next" (.cons (.var 0) (.cons (.cst (.int 16)) .nil))) (.cst (.int 15))) .nil)))) (.cons (.asg (.name 3) (.call "_law_name" (.cons (.var 0) (.cons (.var 1) (.cons (.var 2) .nil))))) (.cons (.ite (.and (.cmp .isnot (.var 3) (.cst .non)) (.cmp .gt (.call "_law_next" (.cons (.var 0) (.cons (.cst (.int 3)) .nil))) (.cst (.int 0)))) (.cons (.ret (.tup (.cons (.cst (.str (sw 9))) (.cons (.var 3) .nil)))) .nil) .nil) (.cons (.ret (.tup (.cons (.cst (.str (sw 8))) (.cons (.ix (.lst (.cons (.call "_law_next" (.cons (.var 0) (.cons (.cst (.int 5)) .nil))) (.cons (.bin .sub (.call "_law_next" (.cons (.var 0) (.cons (.cst (.int 40)) .nil))) (.cst (.int 20))) (.cons (.bin .pow (.cst (.int 10)) (.cst (.int 6))) .nil)))) (.ix (.lst (.cons (.cst (.int 0)) (.cons (.cst (.int 0)) (.cons (.cst (.int 1)) (.cons (.cst (.int 1)) (.cons (.cst (.int 1)) (.cons (.cst (.int 1)) (.cons (.cst (.int 1)) (.cons (.cst (.int 2)) .nil))))))))) (.call "_law_next" (.cons (.var 0) (.cons (.cst (.int 8)) .nil))))) .nil)))) .nil))))⟩
def c__law_with : Df := ⟨2, 3, (.cons (.asg (.name 2) (.blt .dict (.cons (.var 0) .nil))) (.cons (.exp (.bmt .update (.var 2) (.cons (.var 1) .nil))) (.cons (.ret (.var 2)) .nil)))⟩
def c__law_free : Df := ⟨1, 1, (.cons (.ret (.ix (.cst (.str "abcdefgh")) (.call "_law_next" (.cons (.var 0) (.cons (.cst (.int 8)) .nil))))) .nil)⟩
def c__law_expr : Df := ⟨3, 6, (.cons (.asg (.sub (.var 2) (.cst (.int 0))) (.bin .sub (.ix (.var 2) (.cst (.int 0))) (.cst (.int 1)))) (.cons (.asg (.name 3) (.call "_law_next" (.cons (.var 0) (.cons (.cst (.int 22)) .nil)))) (.cons (.ite (.or (.cmp .lt (.ix (.var 2) (.cst (.int 0))) (.cst (.int 4))) (.cmp .lt (.var 3) (.cst (.int 2)))) (.cons (.ret (.call "_law_leaf" (.cons (.var 0) (.cons (.var 1) .nil)))) .nil) .nil) (.cons (.ite (.cmp .lt (.var 3) (.cst (.int 5))) (.cons (.asg (.name 4) (.ix (.lst (.cons (.cst (.str (sw 11))) (.cons (.cst (.str (sw 12))) (.cons (.cst (.str (sw 13))) .nil)))) (.bin .sub (.var 3) (.cst (.int 2))))) (.cons (.asg (.name 5) (.call "_law_expr" (.cons (.var 0) (.cons (.var 1) (.cons (.var 2) .nil))))) (.cons (.ret (.tup (.cons (.var 4) (.cons (.var 5) (.cons (.call "_law_expr" (.cons (.var 0) (.cons (.var 1) (.cons (.var 2) .nil)))) .nil))))) .nil))) .nil) (.cons (.ite (.cmp .eq (.var 3) (.cst (.int 5))) (.cons (.ret (.tup (.cons (.cst (.str (sw 14))) (.cons (.call "_law_expr" (.cons (.var 0) (.cons (.var 1) (.cons (.var 2) .nil)))) (.cons (.call "_law_expr" (.cons (.var 0) (.cons (.var 1) (.cons (.var 2) .nil)))) (.cons (.call "_law_expr" (.cons (.var 0) (.cons (.var 1) (.cons (.var 2) .nil)))) .nil)))))) .nil) .nil) (.cons (.ite (.cmp .lt (.var 3) (.cst (.int 8))) (.cons (.ret (.tup (.cons (.cst (.str (sw 18))) (.cons (.call "_law_expr" (.cons (.var 0) (.cons (.var 1) (.cons (.var 2) .nil)))) .nil)))) .nil) .nil) (.cons (.ite (.cmp .lt (.var 3) (.cst (.int 12))) (.cons (.ret (.call "_law_let" (.cons (.var 0) (.cons (.var 1) (.cons (.var 2) (.cons (.var 3) .nil)))))) .nil) .nil) (.cons (.ite (.cmp .lt (.var 3) (.cst (.int 15))) (.cons (.ret (.call "_law_catch" (.cons (.var 0) (.cons (.var 1) (.cons (.var 2) .nil))))) .nil) .nil) (.cons (.ite (.cmp .lt (.var 3) (.cst (.int 17))) (.cons (.ret (.tup (.cons (.cst (.str (sw 23))) (.cons (.call "_law_expr" (.cons (.var 0) (.cons (.var 1) (.cons (.var 2) .nil)))) .nil)))) .nil) .nil) (.cons (.ite (.cmp .lt (.var 3) (.cst (.int 19))) (.cons (.ret (.tup (.cons (.cst (.str (sw 26))) (.cons (.call "_law_expr" (.cons (.var 0) (.cons (.var 1) (.cons (.var 2) .nil)))) (.cons (.tup (.cons (.cst (.str (sw 18))) (.cons (.call "_law_expr" (.cons (.var 0) (.cons (.var 1) (.cons (.var 2) .nil)))) .nil))) .nil))))) .nil) .nil) (.cons (.ite (.cmp .eq (.var 3) (.cst (.int 19))) (.cons (.ret (.tup (.cons (.cst (.str (sw 27))) (.cons (.call "_law_expr" (.cons (.var 0) (.cons (.var 1) (.cons (.var 2) .nil)))) (.cons (.call "_law_expr" (.cons (.var 0) (.cons (.var 1) (.cons (.var 2) .nil)))) .nil))))) .nil) .nil) (.cons (.ite (.cmp .eq (.var 3) (.cst (.int 20))) (.cons (.ret (.ife (.cmp .eq (.call "_law_next" (.cons (.var 0) (.cons (.cst (.int 3)) .nil))) (.cst (.int 0))) (.tup (.cons (.cst (.str (sw 10))) .nil)) (.call "_law_leaf" (.cons (.var 0) (.cons (.var 1) .nil))))) .nil) .nil) (.cons (.ret (.call "_law_use" (.cons (.var 0) (.cons (.var 1) (.cons (.var 2) .nil))))) .nil)))))))))))))⟩
def c__law_let : Df := ⟨4, 9, (.cons (.asg (.name 4) (.call "_law_free" (.cons (.var 0) .nil))) (.cons (.ite (.cmp .lt (.var 3) (.cst (.int 10))) (.cons (.ret (.tup (.cons (.cst (.str (sw 15))) (.cons (.var 4) (.cons (.call "_law_expr" (.cons (.var 0) (.cons (.var 1) (.cons (.var 2) .nil)))) (.cons (.call "_law_expr" (.cons (.var 0) (.cons (.call "_law_with" (.cons (.var 1) (.cons (.dic (.cons (.var 4) (.cst (.str (sw 37))) .nil)) .nil))) (.cons (.var 2) .nil)))) .nil)))))) .nil) .nil) (.cons (.ite (.cmp .eq (.var 3) (.cst (.int 10))) (.cons (.asg (.name 7) (.call "_law_free" (.cons (.var 0) .nil))) (.cons (.asg (.name 8) (.tup (.cons (.cst (.str (sw 16))) (.cons (.var 7) (.cons (.call "_law_expr" (.cons (.var 0) (.cons (.call "_law_with" (.cons (.var 1) (.cons (.dic (.cons (.var 7) (.cst (.str (sw 37))) .nil)) .nil))) (.cons (.var 2) .nil)))) .nil))))) (.cons (.asg (.name 6) (.call "_law_expr" (.cons (.var 0) (.cons (.call "_law_with" (.cons (.var 1) (.cons (.dic (.cons (.var 4) (.cst (.str (sw 16))) .nil)) .nil))) (.cons (.var 2) .nil))))) (.cons (.ret (.tup (.cons (.cst (.str (sw 15))) (.cons (.var 4) (.cons (.var 8) (.cons (.tup (.cons (.cst (.str (sw 11))) (.cons (.tup (.cons (.cst (.str (sw 17))) (.cons (.tup (.cons (.cst (.str (sw 9))) (.cons (.var 4) .nil))) (.cons (.call "_law_leaf" (.cons (.var 0) (.cons (.var 1) .nil))) .nil)))) (.cons (.var 6) .nil)))) .nil)))))) .nil)))) .nil) (.cons (.asg (.name 5) (.call "_law_with" (.cons (.var 1) (.cons (.dic (.cons (.var 4) (.cst (.str (sw 19))) .nil)) .nil)))) (.cons (.asg (.name 6) (.tup (.cons (.cst (.str (sw 11))) (.cons (.call "_law_expr" (.cons (.var 0) (.cons (.var 5) (.cons (.var 2) .nil)))) (.cons (.tup (.cons (.cst (.str (sw 20))) (.cons (.tup (.cons (.cst (.str (sw 9))) (.cons (.var 4) .nil))) .nil))) .nil))))) (.cons (.ret (.tup (.cons (.cst (.str (sw 15))) (.cons (.var 4) (.cons (.tup (.cons (.cst (.str (sw 19))) (.cons (.call "_law_leaf" (.cons (.var 0) (.cons (.var 1) .nil))) .nil))) (.cons (.var 6) .nil)))))) .nil))))))⟩
def c__law_use : Df := ⟨3, 5, (.cons (.asg (.name 3) (.ix (.lst (.cons (.cst (.str (sw 16))) (.cons (.cst (.str (sw 19))) (.cons (.cst (.str (sw 38))) (.cons (.cst (.str (sw 38))) .nil))))) (.call "_law_next" (.cons (.var 0) (.cons (.cst (.int 4)) .nil))))) (.cons (.asg (.name 4) (.call "_law_name" (.cons (.var 0) (.cons (.var 1) (.cons (.ix (.lst (.cons (.tup (.cons (.var 3) .nil)) (.cons (.tup (.cons (.var 3) (.cons (.cst (.str (sw 37))) .nil))) .nil))) (.blt .int (.cons (.cmp .eq (.call "_law_next" (.cons (.var 0) (.cons (.cst (.int 9)) .nil))) (.cst (.int 8))) .nil))) .nil))))) (.cons (.ite (.cmp .is (.var 4) (.cst .non)) (.cons (.ret (.call "_law_leaf" (.cons (.var 0) (.cons (.var 1) .nil)))) .nil) .nil) (.cons (.ite (.cmp .eq (.var 3) (.cst (.str (sw 16)))) (.cons (.ret (.tup (.cons (.cst (.str (sw 17))) (.cons (.tup (.cons (.cst (.str (sw 9))) (.cons (.var 4) .nil))) (.cons (.call "_law_expr" (.cons (.var 0) (.cons (.var 1) (.cons (.var 2) .nil)))) .nil))))) .nil) .nil) (.cons (.ite (.cmp .eq (.var 3) (.cst (.str (sw 19)))) (.cons (.ret (.ix (.lst (.cons (.tup (.cons (.cst (.str (sw 20))) (.cons (.tup (.cons (.cst (.str (sw 9))) (.cons (.var 4) .nil))) .nil))) (.cons (.tup (.cons (.cst (.str (sw 21))) (.cons (.tup (.cons (.cst (.str (sw 9))) (.cons (.var 4) .nil))) (.cons (.call "_law_expr" (.cons (.var 0) (.cons (.var 1) (.cons (.var 2) .nil)))) .nil)))) .nil))) (.call "_law_next" (.cons (.var 0) (.cons (.cst (.int 2)) .nil))))) .nil) .nil) (.cons (.ret (.ix (.lst (.cons (.tup (.cons (.cst (.str (sw 24))) (.cons (.tup (.cons (.cst (.str (sw 9))) (.cons (.var 4) .nil))) (.cons (.call "_law_expr" (.cons (.var 0) (.cons (.var 1) (.cons (.var 2) .nil)))) .nil)))) (.cons (.tup (.cons (.cst (.str (sw 25))) (.cons (.tup (.cons (.cst (.str (sw 9))) (.cons (.var 4) .nil))) .nil))) .nil))) (.blt .int (.cons (.cmp .eq (.call "_law_next" (.cons (.var 0) (.cons (.cst (.int 4)) .nil))) (.cst (.int 3))) .nil)))) .nil))))))⟩
def c__law_catch : Df := ⟨3, 11, (.cons (.asg (.name 3) (.call "_law_free" (.cons (.var 0) .nil))) (.cons (.asg (.name 4) (.ix (.cst (.str "abcdefgh")) (.bmt .index (.cst (.str "bcdefgha")) (.cons (.var 3) .nil)))) (.cons (.asg (.name 5) (.call "_law_expr" (.cons (.var 0) (.cons (.var 1) (.cons (.var 2) .nil))))) (.cons (.ite (.cmp .gt (.call "_law_next" (.cons (.var 0) (.cons (.cst (.int 4)) .nil))) (.cst (.int 0))) (.cons (.asg (.name 5) (.tup (.cons (.cst (.str (sw 11))) (.cons (.tup (.cons (.cst (.str (sw 23))) (.cons (.call "_law_leaf" (.cons (.var 0) (.cons (.var 1) .nil))) .nil))) (.cons (.var 5) .nil))))) .nil) .nil) (.cons (.asg (.name 6) (.call "_law_with" (.cons (.var 1) (.cons (.dic (.cons (.var 3) (.cst (.str (sw 37))) (.cons (.var 4) (.cst (.str (sw 38))) .nil))) .nil)))) (.cons (.asg (.name 7) (.tup (.cons (.cst (.str (sw 24))) (.cons (.tup (.cons (.cst (.str (sw 9))) (.cons (.var 4) .nil))) (.cons (.call "_law_leaf" (.cons (.var 0) (.cons (.var 6) .nil))) .nil))))) (.cons (.asg (.name 8) (.tup (.cons (.cst (.str (sw 24))) (.cons (.tup (.cons (.cst (.str (sw 9))) (.cons (.var 4) .nil))) (.cons (.call "_law_expr" (.cons (.var 0) (.cons (.var 6) (.cons (.var 2) .nil)))) .nil))))) (.cons (.asg (.name 9) (.tup (.cons (.cst (.str (sw 11))) (.cons (.tup (.cons (.cst (.str (sw 24))) (.cons (.tup (.cons (.cst (.str (sw 9))) (.cons (.var 4) .nil))) (.cons (.tup (.cons (.cst (.str (sw 8))) (.cons (.cst (.int 1)) .nil))) .nil)))) (.cons (.var 8) .nil))))) (.cons (.asg (.name 10) (.lst (.cons (.call "_law_expr" (.cons (.var 0) (.cons (.var 6) (.cons (.var 2) .nil)))) (.cons (.var 7) (.cons (.var 8) (.cons (.var 9) (.cons (.tup (.cons (.cst (.str (sw 15))) (.cons (.var 3) (.cons (.var 8) (.cons (.tup (.cons (.cst (.str (sw 11))) (.cons (.tup (.cons (.cst (.str (sw 9))) (.cons (.var 3) .nil))) (.cons (.tup (.cons (.cst (.str (sw 25))) (.cons (.tup (.cons (.cst (.str (sw 9))) (.cons (.var 4) .nil))) .nil))) .nil)))) .nil))))) .nil))))))) (.cons (.asg (.name 10) (.bin .add (.var 10) (.lst (.cons (.tup (.cons (.cst (.str (sw 11))) (.cons (.tup (.cons (.cst (.str (sw 18))) (.cons (.tup (.cons (.cst (.str (sw 9))) (.cons (.var 3) .nil))) .nil))) (.cons (.var 7) .nil)))) (.cons (.tup (.cons (.cst (.str (sw 14))) (.cons (.tup (.cons (.cst (.str (sw 9))) (.cons (.var 3) .nil))) (.cons (.var 8) (.cons (.var 7) .nil))))) .nil))))) (.cons (.exp (.bmt .append (.var 10) (.cons (.tup (.cons (.cst (.str (sw 11))) (.cons (.tup (.cons (.cst (.str (sw 25))) (.cons (.tup (.cons (.cst (.str (sw 9))) (.cons (.var 4) .nil))) .nil))) (.cons (.var 7) .nil)))) .nil))) (.cons (.ret (.tup (.cons (.cst (.str (sw 22))) (.cons (.var 5) (.cons (.var 3) (.cons (.var 4) (.cons (.ix (.var 10) (.call "_law_next" (.cons (.var 0) (.cons (.cst (.int 8)) .nil)))) .nil))))))) .nil))))))))))))⟩
def c__law_size : Df := ⟨1, 2, (.cons (.ret (.bin .add (.cst (.int 1)) (.blt .sum (.cons (.lc (.call "_law_size" (.cons (.var 1) .nil)) [1] (.name 1) (.seq (.var 0)) (.some (.isi (.var 1) .tuple))) .nil)))) .nil)⟩
def c__law_deep : Df := ⟨1, 2, (.cons (.ret (.bin .add (.cst (.int 1)) (.blt .max (.cons (.bin .add (.lst (.cons (.cst (.int 0)) .nil)) (.lc (.call "_law_deep" (.cons (.var 1) .nil)) [1] (.name 1) (.seq (.var 0)) (.some (.isi (.var 1) .tuple)))) .nil)))) .nil)⟩
def c__law_program : Df := ⟨1, 2, (.cons (.asg (.name 1) (.call "_law_expr" (.cons (.var 0) (.cons (.dic .nil) (.cons (.lst (.cons (.ix (.lst (.cons (.cst (.int 10)) (.cons (.cst (.int 25)) (.cons (.cst (.int 60)) .nil)))) (.call "_law_next" (.cons (.var 0) (.cons (.cst (.int 3)) .nil)))) .nil)) .nil))))) (.cons (.whl (.or (.cmp .gt (.call "_law_size" (.cons (.var 1) .nil)) (.cst (.int 200))) (.cmp .gt (.call "_law_deep" (.cons (.var 1) .nil)) (.cst (.int 41)))) (.cons (.asg (.name 1) (.call "_law_expr" (.cons (.var 0) (.cons (.dic .nil) (.cons (.lst (.cons (.cst (.int 10)) .nil)) .nil))))) .nil)) (.cons (.ret (.var 1)) .nil)))⟩
def c__law_loop : Df := ⟨4, 6, (.cons (.asg (.name 4) (.tup (.cons (.cst (.str (sw 14))) (.cons (.tup (.cons (.cst (.str (sw 13))) (.cons (.tup (.cons (.cst (.str (sw 9))) (.cons (.cst (.str (sw 0))) .nil))) (.cons (.tup (.cons (.cst (.str (sw 8))) (.cons (.cst (.int 1)) .nil))) .nil)))) (.cons (.var 2) (.cons (.var 1) .nil)))))) (.cons (.asg (.name 5) (.tup (.cons (.cst (.str (sw 15))) (.cons (.cst (.str (sw 2))) (.cons (.tup (.cons (.cst (.str (sw 21))) (.cons (.tup (.cons (.cst (.str (sw 9))) (.cons (.cst (.str (sw 1))) .nil))) (.cons (.tup (.cons (.cst (.str (sw 9))) (.cons (.cst (.str (sw 5))) .nil))) .nil)))) (.cons (.tup (.cons (.cst (.str (sw 17))) (.cons (.tup (.cons (.cst (.str (sw 9))) (.cons (.cst (.str (sw 5))) .nil))) (.cons (.tup (.cons (.cst (.str (sw 8))) (.cons (.var 3) .nil))) .nil)))) .nil)))))) (.cons (.ret (.tup (.cons (.cst (.str (sw 15))) (.cons (.cst (.str (sw 1))) (.cons (.tup (.cons (.cst (.str (sw 19))) (.cons (.tup (.cons (.cst (.str (sw 8))) (.cons (.cst (.int 0)) .nil))) .nil))) (.cons (.tup (.cons (.cst (.str (sw 15))) (.cons (.cst (.str (sw 5))) (.cons (.tup (.cons (.cst (.str (sw 16))) (.cons (.cst (.str (sw 0))) (.cons (.var 4) .nil)))) (.cons (.var 5) .nil))))) .nil)))))) .nil)))⟩
def c__law_again : Df := ⟨1, 1, (.cons (.ret (.tup (.cons (.cst (.str (sw 17))) (.cons (.tup (.cons (.cst (.str (sw 20))) (.cons (.tup (.cons (.cst (.str (sw 9))) (.cons (.cst (.str (sw 1))) .nil))) .nil))) (.cons (.tup (.cons (.cst (.str (sw 12))) (.cons (.tup (.cons (.cst (.str (sw 9))) (.cons (.cst (.str (sw 0))) .nil))) (.cons (.tup (.cons (.cst (.str (sw 8))) (.cons (.cst (.int 1)) .nil))) .nil)))) .nil))))) .nil)⟩
def c__law_long : Df := ⟨1, 11, (.cons (.asg (.name 1) (.call "_law_again" (.cons (.var 0) .nil))) (.cons (.asg (.name 2) (.lst (.cons (.tup (.cons (.cst (.str (sw 11))) (.cons (.tup (.cons (.cst (.str (sw 9))) (.cons (.cst (.str (sw 0))) .nil))) (.cons (.var 1) .nil)))) (.cons (.var 1) (.cons (.tup (.cons (.cst (.str (sw 26))) (.cons (.var 1) (.cons (.tup (.cons (.cst (.str (sw 18))) (.cons (.tup (.cons (.cst (.str (sw 9))) (.cons (.cst (.str (sw 0))) .nil))) .nil))) .nil)))) .nil))))) (.cons (.exp (.bmt .append (.var 2) (.cons (.tup (.cons (.cst (.str (sw 11))) (.cons (.tup (.cons (.cst (.str (sw 18))) (.cons (.tup (.cons (.cst (.str (sw 9))) (.cons (.cst (.str (sw 0))) .nil))) .nil))) (.cons (.var 1) .nil)))) .nil))) (.cons (.exp (.bmt .append (.var 2) (.cons (.tup (.cons (.cst (.str (sw 11))) (.cons (.tup (.cons (.cst (.str (sw 23))) (.cons (.tup (.cons (.cst (.str (sw 9))) (.cons (.cst (.str (sw 0))) .nil))) .nil))) (.cons (.var 1) .nil)))) .nil))) (.cons (.exp (.bmt .append (.var 2) (.cons (.tup (.cons (.cst (.str (sw 27))) (.cons (.var 1) (.cons (.tup (.cons (.cst (.str (sw 18))) (.cons (.tup (.cons (.cst (.str (sw 9))) (.cons (.cst (.str (sw 0))) .nil))) .nil))) .nil)))) .nil))) (.cons (.exp (.bmt .append (.var 2) (.cons (.tup (.cons (.cst (.str (sw 15))) (.cons (.cst (.str (sw 2))) (.cons (.var 1) (.cons (.tup (.cons (.cst (.str (sw 11))) (.cons (.tup (.cons (.cst (.str (sw 9))) (.cons (.cst (.str (sw 2))) .nil))) (.cons (.tup (.cons (.cst (.str (sw 9))) (.cons (.cst (.str (sw 2))) .nil))) .nil)))) .nil))))) .nil))) (.cons (.asg (.name 3) (.tup (.cons (.cst (.str (sw 11))) (.cons (.tup (.cons (.cst (.str (sw 23))) (.cons (.tup (.cons (.cst (.str (sw 9))) (.cons (.cst (.str (sw 0))) .nil))) .nil))) (.cons (.var 1) .nil))))) (.cons (.exp (.bmt .append (.var 2) (.cons (.tup (.cons (.cst (.str (sw 22))) (.cons (.var 3) (.cons (.cst (.str (sw 3))) (.cons (.cst (.str (sw 4))) (.cons (.tup (.cons (.cst (.str (sw 24))) (.cons (.tup (.cons (.cst (.str (sw 9))) (.cons (.cst (.str (sw 4))) .nil))) (.cons (.tup (.cons (.cst (.str (sw 9))) (.cons (.cst (.str (sw 3))) .nil))) .nil)))) .nil)))))) .nil))) (.cons (.asg (.name 4) (.lst (.cons (.tup (.cons (.cst (.str (sw 8))) (.cons (.cst (.int 0)) .nil))) (.cons (.tup (.cons (.cst (.str (sw 23))) (.cons (.tup (.cons (.cst (.str (sw 8))) (.cons (.cst (.int 3)) .nil))) .nil))) (.cons (.tup (.cons (.cst (.str (sw 10))) .nil)) (.cons (.tup (.cons (.cst (.str (sw 18))) (.cons (.tup (.cons (.cst (.str (sw 8))) (.cons (.cst (.int 9)) .nil))) .nil))) .nil)))))) (.cons (.asg (.name 5) (.ix (.lst (.cons (.cst (.int 3)) (.cons (.cst (.int 8)) (.cons (.cst (.int 30)) (.cons (.cst (.int 200)) (.cons (.cst (.int 3)) (.cons (.cst (.int 8)) (.cons (.cst (.int 30)) (.cons (.cst (.int 1900)) .nil))))))))) (.call "_law_next" (.cons (.var 0) (.cons (.cst (.int 8)) .nil))))) (.cons (.asg (.name 6) (.call "_law_next" (.cons (.var 0) (.cons (.cst (.int 8)) .nil)))) (.cons (.asg (.name 5) (.ife (.cmp .isin (.var 6) (.tup (.cons (.cst (.int 4)) (.cons (.cst (.int 7)) .nil)))) (.blt .min (.cons (.var 5) (.cons (.cst (.int 300)) .nil))) (.var 5))) (.cons (.asg (.name 7) (.call "_law_loop" (.cons (.var 0) (.cons (.ix (.var 2) (.var 6)) (.cons (.ix (.var 4) (.call "_law_next" (.cons (.var 0) (.cons (.cst (.int 4)) .nil)))) (.cons (.var 5) .nil)))))) (.cons (.asg (.name 8) (.lc (.tup (.cons (.cst (.str (sw 24))) (.cons (.tup (.cons (.cst (.str (sw 9))) (.cons (.cst (.str (sw 7))) .nil))) (.cons (.tup (.cons (.cst (.str (sw 8))) (.cons (.bin .add (.cst (.int 1)) (.var 10)) .nil))) .nil)))) [10] (.name 10) (.range1 (.cst (.int 3))) .none)) (.cons (.asg (.name 9) (.lst (.cons (.tup (.cons (.cst (.str (sw 9))) (.cons (.cst (.str (sw 6))) .nil))) (.cons (.ix (.var 8) (.cst (.int 0))) (.cons (.tup (.cons (.cst (.str (sw 11))) (.cons (.ix (.var 8) (.cst (.int 0))) (.cons (.ix (.var 8) (.cst (.int 1))) .nil)))) (.cons (.tup (.cons (.cst (.str (sw 11))) (.cons (.ix (.var 8) (.cst (.int 0))) (.cons (.tup (.cons (.cst (.str (sw 25))) (.cons (.tup (.cons (.cst (.str (sw 9))) (.cons (.cst (.str (sw 7))) .nil))) .nil))) .nil)))) (.cons (.ix (.var 8) (.cst (.int 2))) .nil))))))) (.cons (.exp (.bmt .append (.var 9) (.cons (.tup (.cons (.cst (.str (sw 15))) (.cons (.cst (.str (sw 0))) (.cons (.ix (.var 8) (.cst (.int 0))) (.cons (.tup (.cons (.cst (.str (sw 15))) (.cons (.cst (.str (sw 1))) (.cons (.ix (.var 8) (.cst (.int 1))) (.cons (.tup (.cons (.cst (.str (sw 11))) (.cons (.tup (.cons (.cst (.str (sw 9))) (.cons (.cst (.str (sw 0))) .nil))) (.cons (.tup (.cons (.cst (.str (sw 9))) (.cons (.cst (.str (sw 1))) .nil))) .nil)))) .nil))))) .nil))))) .nil))) (.cons (.ite (.cmp .gt (.call "_law_next" (.cons (.var 0) (.cons (.cst (.int 5)) .nil))) (.cst (.int 0))) (.cons (.asg (.name 7) (.tup (.cons (.cst (.str (sw 22))) (.cons (.var 7) (.cons (.cst (.str (sw 6))) (.cons (.cst (.str (sw 7))) (.cons (.ix (.var 9) (.call "_law_next" (.cons (.var 0) (.cons (.cst (.int 6)) .nil)))) .nil))))))) .nil) .nil) (.cons (.ret (.var 7)) .nil))))))))))))))))))⟩
def c__law_any : Df := ⟨1, 1, (.cons (.ret (.ife (.cmp .eq (.call "_law_next" (.cons (.var 0) (.cons (.cst (.int 3)) .nil))) (.cst (.int 2))) (.call "_law_long" (.cons (.var 0) .nil)) (.call "_law_program" (.cons (.var 0) .nil)))) .nil)⟩
def c__law_join : Df := ⟨1, 3, (.cons (.asg (.name 1) (.cst (.str (sw 39)))) (.cons (.for (.name 2) (.seq (.var 0)) (.cons (.ite (.or (.cmp .is (.var 1) (.cst .non)) (.or (.cmp .is (.var 2) (.cst .non)) (.and (.cmp .ne (.var 1) (.cst (.str (sw 39)))) (.cmp .eq (.var 2) (.cst (.str (sw 41))))))) (.cons (.ret (.cst .non)) .nil) .nil) (.cons (.ite (.cmp .eq (.var 1) (.cst (.str (sw 39)))) (.cons (.asg (.name 1) (.var 2)) .nil) .nil) .nil))) (.cons (.ret (.var 1)) .nil)))⟩
def c__law_paper : Df := ⟨2, 11, (.cons (.asg (.name 2) (.ix (.var 0) (.cst (.int 0)))) (.cons (.ite (.cmp .isin (.var 2) (.tup (.cons (.cst (.str (sw 8))) (.cons (.cst (.str (sw 10))) .nil)))) (.cons (.ret (.tup (.cons (.cst (.str (sw 39))) (.cons (.tup .nil) .nil)))) .nil) .nil) (.cons (.ite (.cmp .eq (.var 2) (.cst (.str (sw 9)))) (.cons (.ret (.tup (.cons (.ife (.cmp .eq (.ix (.var 0) (.cst (.int 1))) (.var 1)) (.cst .non) (.cst (.str (sw 39)))) (.cons (.tup .nil) .nil)))) .nil) .nil) (.cons (.asg (.name 3) (.lc (.var 8) [8] (.name 8) (.seq (.sl (.var 0) (.some (.cst (.int 1))) .none)) (.some (.isi (.var 8) .tuple)))) (.cons (.asg (.name 4) (.bin .mul (.lst (.cons (.var 1) .nil)) (.blt .len (.cons (.var 3) .nil)))) (.cons (.ite (.or (.and (.cmp .isin (.var 2) (.tup (.cons (.cst (.str (sw 15))) (.cons (.cst (.str (sw 16))) .nil)))) (.cmp .eq (.ix (.var 0) (.cst (.int 1))) (.var 1))) (.and (.cmp .eq (.var 2) (.cst (.str (sw 22)))) (.cmp .isin (.var 1) (.sl (.var 0) (.some (.cst (.int 2))) (.some (.cst (.int 4))))))) (.cons (.asg (.sub (.var 4) (.neg (.cst (.int 1)))) (.cst .non)) .nil) .nil) (.cons (.asg (.name 5) (.lc (.call "_law_paper" (.cons (.var 8) (.cons (.var 9) .nil))) [8, 9] (.tup 2 (.cons (.name 8) (.cons (.name 9) .nil))) (.zip (.var 3) (.var 4)) .none)) (.cons (.asg (.name 6) (.lc (.ix (.var 8) (.cst (.int 0))) [8] (.name 8) (.seq (.var 5)) .none)) (.cons (.asg (.name 7) (.call "_law_join" (.cons (.var 6) .nil))) (.cons (.ite (.and (.cmp .isin (.var 2) (.tup (.cons (.cst (.str (sw 24))) (.cons (.cst (.str (sw 25))) .nil)))) (.cmp .eq (.ix (.var 3) (.cst (.int 0))) (.tup (.cons (.cst (.str (sw 9))) (.cons (.var 1) .nil))))) (.cons (.asg (.name 7) (.ife (.or (.cmp .eq (.var 2) (.cst (.str (sw 25)))) (.cmp .eq (.ix (.var 6) (.cst (.int 1))) (.cst (.str (sw 39))))) (.cst (.str (sw 41))) (.cst .non))) .nil) (.cons (.ite (.cmp .isin (.var 2) (.tup (.cons (.cst (.str (sw 24))) (.cons (.cst (.str (sw 25))) (.cons (.cst (.str (sw 17))) (.cons (.cst (.str (sw 23))) .nil)))))) (.cons (.asg (.name 7) (.ife (.cmp .eq (.var 7) (.cst (.str (sw 39)))) (.cst (.str (sw 40))) (.var 7))) .nil) (.cons (.ite (.cmp .eq (.var 2) (.cst (.str (sw 16)))) (.cons (.asg (.name 7) (.ife (.cmp .isin (.ix (.var 6) (.cst (.int 0))) (.tup (.cons (.cst (.str (sw 39))) (.cons (.cst (.str (sw 40))) .nil)))) (.cst (.str (sw 39))) (.cst .non))) .nil) (.cons (.ite (.cmp .eq (.var 2) (.cst (.str (sw 14)))) (.cons (.asg (.name 10) (.lc (.bmt .index (.lst (.cons (.cst (.str (sw 39))) (.cons (.cst (.str (sw 40))) (.cons (.cst (.str (sw 41))) (.cons (.cst .non) .nil))))) (.cons (.var 8) .nil)) [8] (.name 8) (.seq (.sl (.var 6) (.some (.cst (.int 1))) .none)) .none)) (.cons (.asg (.name 7) (.call "_law_join" (.cons (.lst (.cons (.ix (.var 6) (.cst (.int 0))) (.cons (.ix (.lst (.cons (.cst (.str (sw 39))) (.cons (.cst (.str (sw 40))) (.cons (.cst (.str (sw 41))) (.cons (.cst .non) .nil))))) (.blt .max (.cons (.var 10) .nil))) .nil))) .nil))) .nil)) (.cons (.ite (.cmp .eq (.var 2) (.cst (.str (sw 22)))) (.cons (.asg (.name 7) (.cst .non)) (.cons (.ite (.and (.cmp .isin (.ix (.var 6) (.cst (.int 1))) (.tup (.cons (.cst (.str (sw 39))) (.cons (.cst (.str (sw 40))) .nil)))) (.cmp .isnot (.ix (.var 6) (.cst (.int 0))) (.cst .non))) (.cons (.asg (.name 7) (.ife (.cmp .ne (.ix (.var 6) (.cst (.int 0))) (.cst (.str (sw 39)))) (.ix (.var 6) (.cst (.int 0))) (.cst (.str (sw 40))))) .nil) .nil) .nil)) .nil) .nil)) .nil)) .nil)) .nil)) (.cons (.ret (.tup (.cons (.var 7) (.cons (.blt .tuple (.cons (.var 5) .nil)) .nil)))) .nil)))))))))))⟩
def c__law_catches : Df := ⟨1, 3, (.cons (.asg (.name 1) (.ife (.cmp .eq (.ix (.var 0) (.cst (.int 0))) (.cst (.str (sw 22)))) (.lst (.cons (.var 0) .nil)) (.lst .nil))) (.cons (.for (.name 2) (.seq (.var 0)) (.cons (.ite (.isi (.var 2) .tuple) (.cons (.asg (.name 1) (.bin .add (.var 1) (.call "_law_catches" (.cons (.var 2) .nil)))) .nil) .nil) .nil)) (.cons (.ret (.var 1)) .nil)))⟩
def c__law_papers : Df := ⟨1, 4, (.cons (.asg (.name 1) (.lst .nil)) (.cons (.for (.name 2) (.seq (.call "_law_catches" (.cons (.var 0) .nil))) (.cons (.asg (.name 3) (.call "_law_paper" (.cons (.ix (.var 2) (.cst (.int 4))) (.cons (.ix (.var 2) (.cst (.int 3))) .nil)))) (.cons (.exp (.bmt .append (.var 1) (.cons (.ife (.cmp .is (.ix (.var 3) (.cst (.int 0))) (.cst .non)) (.cst .non) (.var 3)) .nil))) .nil))) (.cons (.ret (.var 1)) .nil)))⟩
def c__law_handled : Df := ⟨1, 13, (.cons (.asg (.name 1) (.dic (.cons (.cst (.str (sw 0))) (.cst (.str (sw 37))) (.cons (.cst (.str (sw 1))) (.cst (.str (sw 38))) .nil)))) (.cons (.asg (.name 2) (.lst (.cons (.ix (.lst (.cons (.cst (.int 4)) (.cons (.cst (.int 12)) (.cons (.cst (.int 30)) .nil)))) (.call "_law_next" (.cons (.var 0) (.cons (.cst (.int 3)) .nil)))) .nil))) (.cons (.asg (.name 3) (.tup (.cons (.cst (.str (sw 24))) (.cons (.tup (.cons (.cst (.str (sw 9))) (.cons (.cst (.str (sw 1))) .nil))) (.cons (.call "_law_leaf" (.cons (.var 0) (.cons (.dic (.cons (.cst (.str (sw 0))) (.cst (.str (sw 37))) .nil)) .nil))) .nil))))) (.cons (.asg (.name 4) (.lst (.cons (.call "_law_expr" (.cons (.var 0) (.cons (.var 1) (.cons (.var 2) .nil)))) (.cons (.var 3) (.cons (.call "_law_use" (.cons (.var 0) (.cons (.var 1) (.cons (.var 2) .nil)))) (.cons (.tup (.cons (.cst (.str (sw 25))) (.cons (.tup (.cons (.cst (.str (sw 9))) (.cons (.cst (.str (sw 1))) .nil))) .nil))) .nil)))))) (.cons (.asg (.name 4) (.bin .add (.var 4) (.lst (.cons (.call "_law_leaf" (.cons (.var 0) (.cons (.dic (.cons (.cst (.str (sw 0))) (.cst (.str (sw 37))) .nil)) .nil))) (.cons (.tup (.cons (.cst (.str (sw 16))) (.cons (.cst (.str (sw 1))) (.cons (.tup (.cons (.cst (.str (sw 24))) (.cons (.tup (.cons (.cst (.str (sw 9))) (.cons (.cst (.str (sw 1))) .nil))) (.cons (.tup (.cons (.cst (.str (sw 8))) (.cons (.cst (.int 1)) .nil))) .nil)))) .nil)))) .nil))))) (.cons (.asg (.tup 3 (.cons (.name 9) (.cons (.name 10) (.cons (.name 11) .nil)))) (.lc (.ix (.var 4) (.call "_law_next" (.cons (.var 0) (.cons (.cst (.int 6)) .nil)))) [12] (.name 12) (.range1 (.cst (.int 3))) .none)) (.cons (.asg (.name 5) (.lst (.cons (.var 9) (.cons (.tup (.cons (.cst (.str (sw 11))) (.cons (.var 9) (.cons (.var 10) .nil)))) (.cons (.tup (.cons (.cst (.str (sw 14))) (.cons (.var 11) (.cons (.var 9) (.cons (.var 10) .nil))))) (.cons (.tup (.cons (.cst (.str (sw 15))) (.cons (.cst (.str (sw 2))) (.cons (.var 9) (.cons (.var 10) .nil))))) (.cons (.tup (.cons (.cst (.str (sw 27))) (.cons (.var 9) (.cons (.var 10) .nil)))) .nil))))))) (.cons (.asg (.name 5) (.bin .add (.var 5) (.lst (.cons (.tup (.cons (.cst (.str (sw 26))) (.cons (.var 9) (.cons (.var 10) .nil)))) (.cons (.tup (.cons (.cst (.str (sw 15))) (.cons (.cst (.str (sw 1))) (.cons (.var 9) (.cons (.var 10) .nil))))) (.cons (.tup (.cons (.cst (.str (sw 22))) (.cons (.var 9) (.cons (.cst (.str (sw 2))) (.cons (.cst (.str (sw 1))) (.cons (.var 10) .nil)))))) .nil)))))) (.cons (.exp (.bmt .append (.var 5) (.cons (.tup (.cons (.cst (.str (sw 22))) (.cons (.var 9) (.cons (.cst (.str (sw 1))) (.cons (.cst (.str (sw 2))) (.cons (.var 10) .nil)))))) .nil))) (.cons (.asg (.name 5) (.bin .add (.var 5) (.lst (.cons (.tup (.cons (.cst (.str (sw 17))) (.cons (.tup (.cons (.cst (.str (sw 16))) (.cons (.cst (.str (sw 2))) (.cons (.var 9) .nil)))) (.cons (.var 10) .nil)))) (.cons (.tup (.cons (.cst (.str (sw 24))) (.cons (.var 9) (.cons (.var 10) .nil)))) (.cons (.tup (.cons (.cst (.str (sw 22))) (.cons (.var 9) (.cons (.cst (.str (sw 2))) (.cons (.cst (.str (sw 3))) (.cons (.var 10) .nil)))))) .nil)))))) (.cons (.exp (.bmt .append (.var 5) (.cons (.tup (.cons (.cst (.str (sw 23))) (.cons (.var 9) .nil))) .nil))) (.cons (.asg (.name 6) (.ix (.var 5) (.call "_law_next" (.cons (.var 0) (.cons (.cst (.int 13)) .nil))))) (.cons (.ite (.cmp .eq (.call "_law_next" (.cons (.var 0) (.cons (.cst (.int 2)) .nil))) (.cst (.int 0))) (.cons (.asg (.name 6) (.tup (.cons (.cst (.str (sw 11))) (.cons (.tup (.cons (.cst (.str (sw 18))) (.cons (.tup (.cons (.cst (.str (sw 9))) (.cons (.cst (.str (sw 0))) .nil))) .nil))) (.cons (.var 6) .nil))))) .nil) .nil) (.cons (.asg (.name 7) (.tup (.cons (.cst (.str (sw 26))) (.cons (.tup (.cons (.cst (.str (sw 11))) (.cons (.tup (.cons (.cst (.str (sw 23))) (.cons (.call "_law_leaf" (.cons (.var 0) (.cons (.dic .nil) .nil))) .nil))) (.cons (.call "_law_leaf" (.cons (.var 0) (.cons (.dic .nil) .nil))) .nil)))) (.cons (.tup (.cons (.cst (.str (sw 18))) (.cons (.tup (.cons (.cst (.str (sw 8))) (.cons (.cst (.int 3)) .nil))) .nil))) .nil))))) (.cons (.asg (.name 8) (.tup (.cons (.cst (.str (sw 22))) (.cons (.var 7) (.cons (.cst (.str (sw 0))) (.cons (.cst (.str (sw 1))) (.cons (.var 6) .nil))))))) (.cons (.ret (.ife (.and (.cmp .le (.call "_law_size" (.cons (.var 8) .nil)) (.cst (.int 190))) (.cmp .le (.call "_law_deep" (.cons (.var 8) .nil)) (.cst (.int 38)))) (.var 8) (.tup (.cons (.cst (.str (sw 22))) (.cons (.var 7) (.cons (.cst (.str (sw 0))) (.cons (.cst (.str (sw 1))) (.cons (.tup (.cons (.cst (.str (sw 9))) (.cons (.cst (.str (sw 0))) .nil))) .nil)))))))) .nil))))))))))))))))⟩
def c__law_tall : Df := ⟨1, 7, (.cons (.asg (.name 1) (.ix (.lst (.cons (.tup (.cons (.cst (.str (sw 8))) (.cons (.cst (.int 1)) .nil))) (.cons (.tup (.cons (.cst (.str (sw 23))) (.cons (.tup (.cons (.cst (.str (sw 8))) (.cons (.cst (.int 2)) .nil))) .nil))) (.cons (.tup (.cons (.cst (.str (sw 9))) (.cons (.cst (.str (sw 0))) .nil))) .nil)))) (.call "_law_next" (.cons (.var 0) (.cons (.cst (.int 2)) .nil))))) (.cons (.asg (.name 2) (.lst (.cons (.tup (.cons (.cst (.str (sw 24))) (.cons (.tup (.cons (.cst (.str (sw 9))) (.cons (.cst (.str (sw 1))) .nil))) (.cons (.tup (.cons (.cst (.str (sw 8))) (.cons (.cst (.int 1)) .nil))) .nil)))) (.cons (.tup (.cons (.cst (.str (sw 9))) (.cons (.cst (.str (sw 0))) .nil))) (.cons (.tup (.cons (.cst (.str (sw 25))) (.cons (.tup (.cons (.cst (.str (sw 9))) (.cons (.cst (.str (sw 1))) .nil))) .nil))) (.cons (.tup (.cons (.cst (.str (sw 8))) (.cons (.cst (.int 7)) .nil))) .nil)))))) (.cons (.exp (.bmt .append (.var 2) (.cons (.tup (.cons (.cst (.str (sw 16))) (.cons (.cst (.str (sw 2))) (.cons (.tup (.cons (.cst (.str (sw 24))) (.cons (.tup (.cons (.cst (.str (sw 9))) (.cons (.cst (.str (sw 1))) .nil))) (.cons (.tup (.cons (.cst (.str (sw 9))) (.cons (.cst (.str (sw 0))) .nil))) .nil)))) .nil)))) .nil))) (.cons (.for (.name 3) (.range1 (.bin .add (.cst (.int 1)) (.call "_law_next" (.cons (.var 0) (.cons (.ix (.lst (.cons (.cst (.int 6)) (.cons (.cst (.int 36)) .nil))) (.call "_law_next" (.cons (.var 0) (.cons (.cst (.int 2)) .nil)))) .nil))))) (.cons (.asg (.name 4) (.ix (.lst (.cons (.var 1) (.cons (.tup (.cons (.cst (.str (sw 23))) (.cons (.tup (.cons (.cst (.str (sw 8))) (.cons (.var 3) .nil))) .nil))) .nil))) (.call "_law_next" (.cons (.var 0) (.cons (.cst (.int 2)) .nil))))) (.cons (.asg (.name 5) (.ife (.cmp .eq (.var 4) (.var 1)) (.ix (.var 2) (.call "_law_next" (.cons (.var 0) (.cons (.cst (.int 5)) .nil)))) (.var 1))) (.cons (.asg (.name 6) (.tup (.cons (.cst (.str (sw 22))) (.cons (.var 4) (.cons (.cst (.str (sw 0))) (.cons (.cst (.str (sw 1))) (.cons (.var 5) .nil))))))) (.cons (.asg (.name 1) (.ife (.cmp .le (.call "_law_size" (.cons (.var 6) .nil)) (.cst (.int 190))) (.var 6) (.var 1))) .nil))))) (.cons (.ret (.var 1)) .nil)))))⟩
def c_law : Df := ⟨1, 8, (.cons (.asg (.name 1) (.call "_law_dice" (.cons (.var 0) .nil))) (.cons (.for (.name 2) (.range1 (.cst (.int 6))) (.cons (.asg (.name 3) (.ife (.cmp .eq (.call "_law_next" (.cons (.var 1) (.cons (.cst (.int 3)) .nil))) (.cst (.int 0))) (.call "_law_any" (.cons (.var 1) .nil)) (.call "_law_handled" (.cons (.var 1) .nil)))) (.cons (.ite (.cmp .eq (.call "_law_next" (.cons (.var 1) (.cons (.cst (.int 4)) .nil))) (.cst (.int 0))) (.cons (.asg (.name 3) (.call "_law_tall" (.cons (.var 1) .nil))) .nil) .nil) (.cons (.ite (.and (.cmp .eq (.call "_law_next" (.cons (.var 1) (.cons (.cst (.int 4)) .nil))) (.cst (.int 0))) (.and (.cmp .le (.call "_law_size" (.cons (.var 3) .nil)) (.cst (.int 190))) (.cmp .le (.call "_law_deep" (.cons (.var 3) .nil)) (.cst (.int 38))))) (.cons (.asg (.name 3) (.tup (.cons (.cst (.str (sw 22))) (.cons (.tup (.cons (.cst (.str (sw 11))) (.cons (.var 3) (.cons (.tup (.cons (.cst (.str (sw 23))) (.cons (.tup (.cons (.cst (.str (sw 8))) (.cons (.cst (.int 2)) .nil))) .nil))) .nil)))) (.cons (.cst (.str (sw 2))) (.cons (.cst (.str (sw 1))) (.cons (.tup (.cons (.cst (.str (sw 24))) (.cons (.tup (.cons (.cst (.str (sw 9))) (.cons (.cst (.str (sw 1))) .nil))) (.cons (.tup (.cons (.cst (.str (sw 8))) (.cons (.cst (.int 1)) .nil))) .nil)))) .nil))))))) .nil) .nil) (.cons (.asg (.name 4) (.call "_law_papers" (.cons (.var 3) .nil))) (.cons (.for (.name 5) (.range1 (.cst (.int 2))) (.cons (.asg (.name 7) (.call "papers" (.cons (.var 3) .nil))) (.cons (.ite (.not (.call "_law_like" (.cons (.var 7) (.cons (.var 4) .nil)))) (.cons (.ret (.cst (.bl false))) .nil) .nil) (.cons (.exp (.bmt .append (.var 7) (.cons (.cst .non) .nil))) .nil)))) (.cons (.for (.name 6) (.range1 (.blt .len (.cons (.var 4) .nil))) (.cons (.ite (.and (.cmp .isnot (.ix (.var 4) (.var 6)) (.cst .non)) (.not (.call "_law_like" (.cons (.call "shows" (.cons (.var 3) (.cons (.var 6) (.cons (.ix (.var 4) (.var 6)) .nil)))) (.cons (.cst (.bl true)) .nil))))) (.cons (.ret (.cst (.bl false))) .nil) .nil) .nil)) .nil))))))) (.cons (.ret (.cst (.bl true))) .nil)))⟩
end PL


set_option linter.all false
set_option maxRecDepth 100000
set_option autoImplicit false
/-! PT: programs as trees, the dict of names, what holds of a store. -/
namespace PL
open MP
open PySem (Str)
inductive U where | say | box | look | throw | drop
  deriving DecidableEq
inductive B where | add | take | less | call | put | go | last | els
  deriving DecidableEq
def U.ix : U → Nat
  | .say => 18 | .box => 19 | .look => 20 | .throw => 23 | .drop => 25
def B.ix : B → Nat
  | .add => 11 | .take => 12 | .less => 13 | .call => 17 | .put => 21 | .go => 24 | .last => 26 | .els => 27
abbrev Nm := Fin 8
abbrev sW (i : Nat) : W := .str (sw i)
/-- a program's part -/
inductive Pt where
  | num (i : Int) | name (x : Nm) | fault | un (u : U) (a : Pt) | bi (o : B) (a b : Pt) | ite (a b c : Pt) | letp (x : Nm) (a b : Pt) | fnp (x : Nm) (a : Pt) | cat (a : Pt) (x k : Nm) (b : Pt)
  deriving DecidableEq
def enc : Pt → W
  | .num i => .tup [sW 8, .int i]
  | .name x => .tup [sW 9, sW x.val]
  | .fault => .tup [sW 10]
  | .un u a => .tup [sW u.ix, enc a]
  | .bi o a b => .tup [sW o.ix, enc a, enc b]
  | .ite a b c => .tup [sW 14, enc a, enc b, enc c]
  | .letp x a b => .tup [sW 15, sW x.val, enc a, enc b]
  | .fnp x a => .tup [sW 16, sW x.val, enc a]
  | .cat a x k b => .tup [sW 22, enc a, sW x.val, sW k.val, enc b]
def size : Pt → Nat
  | .num _ => 1
  | .name _ => 1
  | .fault => 1
  | .un _ a => size a + 1
  | .bi _ a b => size a + size b + 1
  | .ite a b c => size a + size b + size c + 1
  | .letp _ a b => size a + size b + 1
  | .fnp _ a => size a + 1
  | .cat a _ _ b => size a + size b + 1
def deep : Pt → Nat
  | .num _ => 1
  | .name _ => 1
  | .fault => 1
  | .un _ a => deep a + 1
  | .bi _ a b => max (deep a) (deep b) + 1
  | .ite a b c => max (max (deep a) (deep b)) (deep c) + 1
  | .letp _ a b => max (deep a) (deep b) + 1
  | .fnp _ a => deep a + 1
  | .cat a _ _ b => max (deep a) (deep b) + 1
theorem size_pos (t : Pt) : 0 < size t := by cases t <;> simp [size]
theorem deep_pos (t : Pt) : 0 < deep t := by cases t <;> simp [deep]
def numOk (i : Int) : Prop := -1000000 ≤ i ∧ i ≤ 1000000
/-- it may stand where the names of g are bound -/
def wf (g : List Nm) : Pt → Prop
  | .num i => numOk i
  | .name x => x ∈ g
  | .fault => True
  | .un _ a => wf g a
  | .bi _ a b => wf g a ∧ wf g b
  | .ite a b c => wf g a ∧ wf g b ∧ wf g c
  | .letp x a b => wf g a ∧ wf (x :: g) b
  | .fnp x a => wf (x :: g) a
  | .cat a x k b => x ≠ k ∧ wf g a ∧ wf (x :: k :: g) b
theorem cons_sub {g h : List Nm} (x : Nm) (s : ∀ y ∈ g, y ∈ h) : ∀ y ∈ x :: g, y ∈ x :: h := by
  intro y hy
  rcases List.mem_cons.mp hy with rfl | hy
  · exact List.mem_cons_self
  · exact List.mem_cons_of_mem _ (s y hy)
theorem wf.mono {t : Pt} : ∀ {g h : List Nm}, wf g t → (∀ x ∈ g, x ∈ h) → wf h t := by
  induction t with
  | num i => intro g h w s; exact w
  | name x => intro g h w s; exact s x w
  | fault => intro g h w s; exact w
  | un u a ia => intro g h w s; exact ia w s
  | bi o a b ia ib => intro g h w s; exact ⟨ia w.1 s, ib w.2 s⟩
  | ite a b c ia ib ic => intro g h w s; exact ⟨ia w.1 s, ib w.2.1 s, ic w.2.2 s⟩
  | letp x a b ia ib => intro g h w s; exact ⟨ia w.1 s, ib w.2 (cons_sub x s)⟩
  | fnp x a ia => intro g h w s; exact ia w (cons_sub x s)
  | cat a x k b ia ib => intro g h w s; exact ⟨w.1, ia w.2.1 s, ib w.2.2 (cons_sub x (cons_sub k s))⟩
/-! ### the dict of names -/
abbrev NL := List (Nm × Nat)
def encN (l : NL) : List (Key × W) := l.map fun p => (.inr (sw p.1.val), sW p.2)
theorem nm_lt (x : Nm) : x.val < swN := Nat.lt_of_lt_of_le x.isLt (by decide)
theorem nm_inj {x y : Nm} : sw x.val = sw y.val ↔ x = y := by
  rw [sw_inj (nm_lt x) (nm_lt y)]
  exact Fin.val_inj
def put (l : NL) (x : Nm) (j : Nat) : NL := if (l.any fun p => decide (p.1 = x)) = true then l.map (fun p => if p.1 = x then (p.1, j) else p) else l ++ [(x, j)]
theorem kput_enc (l : NL) (x : Nm) (j : Nat) : kput (encN l) (.inr (sw x.val)) (sW j) = encN (put l x j) := by
  have e : (encN l).any (fun p => decide (p.1 = .inr (sw x.val))) = l.any fun p => decide (p.1 = x) := by
    unfold encN
    rw [List.any_map]
    congr 1
    funext p
    simp [nm_inj]
  unfold kput put
  rw [e]
  split
  · unfold encN
    rw [List.map_map, List.map_map]
    congr 1
    funext p
    simp only [Function.comp_apply, Sum.inr.injEq, nm_inj]
    split <;> rfl
  · simp [encN]
def merge (l m : NL) : NL := m.foldl (fun acc p => put acc p.1 p.2) l
theorem mergeW_enc (l m : NL) : mergeW (encN l) (encN m) = encN (merge l m) := by
  induction m generalizing l with
  | nil => rfl
  | cons p r ih =>
    show mergeW (kput (encN l) (.inr (sw p.1.val)) (sW p.2)) (encN r) = _
    rw [kput_enc, ih]
    rfl
theorem kget_enc {l : NL} {x : Nm} {j : Nat} (h : (x, j) ∈ l) : ∃ j, kget (encN l) (.inr (sw x.val)) = some (sW j) := by
  induction l with
  | nil => cases h
  | cons p r ih =>
    by_cases e : p.1 = x
    · exact ⟨p.2, by simp [kget, encN, e]⟩
    · have hr : (x, j) ∈ r := by
        rcases List.mem_cons.mp h with rfl | h
        · exact absurd rfl e
        · exact h
      obtain ⟨i, hi⟩ := ih hr
      refine ⟨i, ?_⟩
      unfold kget at hi ⊢
      show Option.map (·.2) (List.find? _ (_ :: encN r)) = _
      rw [List.find?_cons_of_neg (by simpa [nm_inj] using e)]
      exact hi
theorem keysS_enc (l : NL) : keysS (encN l) = some (l.map fun p => sw p.1.val) := by
  induction l with
  | nil => rfl
  | cons p r ih =>
    show (keysS (encN r)).map (sw p.1.val :: ·) = _
    rw [ih]
    rfl
def NDK (l : NL) : Prop := (l.map (·.1)).Nodup
theorem put_keys (l : NL) (x : Nm) (j : Nat) : (put l x j).map (·.1) = if x ∈ l.map (·.1) then l.map (·.1) else l.map (·.1) ++ [x] := by
  have e : (l.any (fun p => decide (p.1 = x)) = true) ↔ x ∈ l.map (·.1) := by
    simp only [List.any_eq_true, decide_eq_true_eq, List.mem_map]
  unfold put
  by_cases hx : x ∈ l.map (·.1)
  · rw [if_pos hx, if_pos (e.mpr hx), List.map_map]
    congr 1
    funext p
    simp only [Function.comp_apply]
    split <;> rfl
  · rw [if_neg hx, if_neg (fun h => hx (e.mp h))]
    simp
theorem put_nd {l : NL} (h : NDK l) (x : Nm) (j : Nat) : NDK (put l x j) := by
  unfold NDK
  rw [put_keys]
  split
  · exact h
  · rename_i hx
    rw [List.nodup_append]
    exact ⟨h, by simp, by intro a ha b hb e; simp at hb; subst hb; subst e; exact hx ha⟩
theorem put_mem {l : NL} {x y : Nm} {j : Nat} (h : y ∈ (put l x j).map (·.1)) : y = x ∨ y ∈ l.map (·.1) := by
  rw [put_keys] at h
  split at h
  · exact .inr h
  · rcases List.mem_append.mp h with h | h
    · exact .inr h
    · exact .inl (by simpa using h)
theorem merge_nd {l : NL} (h : NDK l) (m : NL) : NDK (merge l m) := by
  induction m generalizing l with
  | nil => exact h
  | cons p r ih => exact ih (put_nd h p.1 p.2)
theorem merge_mem {l m : NL} {y : Nm} (h : y ∈ (merge l m).map (·.1)) : y ∈ m.map (·.1) ∨ y ∈ l.map (·.1) := by
  induction m generalizing l with
  | nil => exact .inr h
  | cons p r ih =>
    rcases ih h with h | h
    · exact .inl (List.mem_cons_of_mem _ h)
    · rcases put_mem h with rfl | h
      · exact .inl List.mem_cons_self
      · exact .inr h
theorem nodup_len : ∀ (n : Nat) (l : List Nat), l.Nodup → (∀ x ∈ l, x < n) → l.length ≤ n := by
  intro n
  induction n with
  | zero => intro l _ h; cases l with | nil => simp | cons a r => exact absurd (h a List.mem_cons_self) (by omega)
  | succ n ih =>
    intro l nd h
    by_cases hm : n ∈ l
    · have := ih (l.erase n) (nd.erase n) (fun x hx => by
        have h1 := h x (List.mem_of_mem_erase hx)
        have h2 : x ≠ n := fun e => by subst e; exact (List.Nodup.not_mem_erase nd) hx
        omega)
      rw [List.length_erase_of_mem hm] at this
      omega
    · have := ih l nd (fun x hx => by
        have h1 := h x hx
        have h2 : x ≠ n := fun e => by subst e; exact hm hx
        omega)
      omega
theorem ndk_len {l : NL} (h : NDK l) : l.length ≤ 8 := by
  have := nodup_len 8 ((l.map (·.1)).map Fin.val) (by
    unfold NDK at h
    exact List.Pairwise.map _ (fun a b hab e => hab (Fin.val_inj.mp e)) h) (by
    intro x hx
    obtain ⟨y, _, rfl⟩ := List.mem_map.mp hx
    exact y.isLt)
  simpa using this
theorem insS_mem {x y : Str} {l : List Str} : y ∈ insS x l ↔ y = x ∨ y ∈ l := by
  induction l with
  | nil => simp [insS]
  | cons a r ih =>
    unfold insS
    split
    · simp
    · simp only [List.mem_cons, ih]
      constructor
      · rintro (h | h | h)
        · exact .inr (.inl h)
        · exact .inl h
        · exact .inr (.inr h)
      · rintro (h | h | h)
        · exact .inr (.inl h)
        · exact .inl h
        · exact .inr (.inr h)
theorem sortS_mem {y : Str} {l : List Str} : y ∈ sortS l ↔ y ∈ l := by
  induction l with
  | nil => simp [sortS]
  | cons a r ih =>
    unfold sortS
    rw [insS_mem, ih]
    simp
theorem insS_len {x : Str} {l : List Str} : (insS x l).length = l.length + 1 := by
  induction l with
  | nil => rfl
  | cons a r ih =>
    unfold insS
    split
    · rfl
    · simp [ih]
theorem sortS_len {l : List Str} : (sortS l).length = l.length := by
  induction l with
  | nil => rfl
  | cons a r ih =>
    unfold sortS
    rw [insS_len, ih]
    rfl
/-! ### what a store holds -/
/-- the dice -/
def Dice (st : Store) (d : Nat) : Prop := ∃ (sc : List Int) (i : Nat) (x c : Int), st[d]? = some (.lst [.fro (sc.map .int), .int (i : Int), .int x, .int c])
/-- names: the dict at n binds those of l, all of which are in g -/
def Nms (st : Store) (n : Nat) (g : List Nm) : Prop := ∃ l : NL, st[n]? = some (.dic (encN l)) ∧ NDK l ∧ ∀ p ∈ l, p.1 ∈ g
def Room (st : Store) (m : Nat) (r : Int) : Prop := st[m]? = some (.lst [.int r])
section
variable {st st' : Store} {d n m : Nat} {g : List Nm} {r : Int} {M : List Nat}
theorem Dice.fr (h : Dice st d) (f : Fr M st st') (hd : d ∉ M) : Dice st' d := by
  obtain ⟨sc, i, x, c, h⟩ := h
  exact ⟨sc, i, x, c, f.get hd h⟩
theorem Nms.fr (h : Nms st n g) (f : Fr M st st') (hd : n ∉ M) : Nms st' n g := by
  obtain ⟨l, h, k⟩ := h
  exact ⟨l, f.get hd h, k⟩
theorem Nms.ne_d (h : Nms st n g) (k : Dice st d) : n ≠ d := by
  obtain ⟨l, h, _⟩ := h
  obtain ⟨sc, i, x, c, k⟩ := k
  exact ne_of h k (by simp)
theorem Nms.ne_r (h : Nms st n g) (k : Room st m r) : n ≠ m := by
  obtain ⟨l, h, _⟩ := h
  exact ne_of h k (by simp)
theorem Room.ne_d (h : Room st m r) (k : Dice st d) : m ≠ d := by
  obtain ⟨sc, i, x, c, k⟩ := k
  exact ne_of h k (by simp)
theorem Room.fr (h : Room st m r) (f : Fr M st st') (hd : m ∉ M) : Room st' m r := f.get hd h
theorem Dice.lt (h : Dice st d) : d < st.length := by
  obtain ⟨sc, i, x, c, h⟩ := h
  exact len_of h
theorem Nms.lt (h : Nms st n g) : n < st.length := by
  obtain ⟨l, h, _⟩ := h
  exact len_of h
theorem Room.lt (h : Room st m r) : m < st.length := len_of h
end
end PL


set_option linter.all false
set_option maxRecDepth 100000
set_option autoImplicit false
/-! G1: the law's own dice, names and leaves. -/
namespace PL
open MP
open PySem (Str)
structure HasG1 (P : Prog) : Prop where
  dice : P.fn ("_law_dice", none) = some c__law_dice
  next : P.fn ("_law_next", none) = some c__law_next
  name : P.fn ("_law_name", none) = some c__law_name
  leaf : P.fn ("_law_leaf", none) = some c__law_leaf
  with_ : P.fn ("_law_with", none) = some c__law_with
  free : P.fn ("_law_free", none) = some c__law_free
section
variable {P : Prog} (H : HasG1 P) {k : Nat} {st : Store} {d n m : Nat} {g : List Nm} {r : Int}
theorem set_lst {st : Store} {d : Nat} {l : List W} {i : Int} {j : Nat} {w : W} (h : st[d]? = some (.lst l)) (hj : place l.length i = some j) : setW (.ref d) (.int i) w st = .ok () (st.set d (.lst (l.set j w))) := by
  simp [setW, h, hj]
theorem get_set {st : Store} {d : Nat} {o p : SO} (h : st[d]? = some o) : (st.set d p)[d]? = some p := by
  have := len_of h
  simp [List.getElem?_set_self this]
@[simp] theorem place41 : place 4 1 = some 1 := (rfl)
@[simp] theorem place42 : place 4 2 = some 2 := (rfl)
@[simp] theorem place43 : place 4 3 = some 3 := (rfl)
@[simp] theorem place10 : place 1 0 = some 0 := (rfl)
include H
theorem next_is (hk : 0 < k) (D : Dice st d) (v : Int) (h0 : 0 < v) (h1 : v < 1073741824) :
    Is (callF P k ("_law_next", none) [.ref d, .int v] st) fun w st' => ∃ u : Nat, w = .int (u : Int) ∧ (u : Int) < v ∧ Dice st' d ∧ Fr [d] st st' ∧ st'.length = st.length := by
  obtain ⟨sc, i, x, c, hd⟩ := D
  refine call_is H.next hk rfl fun Q hQ => ?_
  have hu : ∀ y : Int, ∃ u : Nat, y % v = (u : Int) ∧ (u : Int) < v := fun y => ⟨(y % v).toNat, by have := Int.emod_nonneg y (show v ≠ 0 by omega); omega, by have := Int.emod_nonneg y (show v ≠ 0 by omega); have := Int.emod_lt_of_pos y h0; omega⟩
  have fr : ∀ o, Fr [d] st (st.set d o) := fun o => Fr.set (by simp)
  have hp : bop .pow (.int 10) (.int 18) = fun st => R.ok (W.int 1000000000000000000) st := by funext s; rfl
  simp [c__law_next, hd, ix_lst]
  by_cases hc : 0 < c
  · obtain ⟨u, e, hu⟩ := hu c
    simp [hc, hd, ix_lst, mod_int h0, fdiv_int ⟨h0, h1⟩, set_lst hd]
    exact .k (hQ _ _ ⟨u, by rw [e], hu, ⟨sc, i, x, _, get_set hd⟩, fr _, by simp⟩)
  · have e1 := set_lst (i := 1) (w := .int ((i : Int) + 1)) hd rfl
    have hd1 := get_set (p := .lst ([W.fro (sc.map .int), .int (i : Int), .int x, .int c].set 1 (.int ((i : Int) + 1)))) hd
    simp [hc, hd, ix_lst, e1]
    simp at hd1
    simp [hd1, ix_lst]
    by_cases hi : (i : Int) + 1 ≤ sc.length
    · have hi' : i < sc.length := by omega
      simp [hi, hd1, ix_lst]
      rw [at_nat (v := .int sc[i]) (by simp [hi'])]
      simp [hp, fdiv_int ⟨h0, h1⟩]
      obtain ⟨u, e, hu⟩ := hu sc[i]
      by_cases hb : 1000000000000000000 ≤ sc[i]
      · simp [hb, set_lst hd1, mod_int h0, fdiv_int ⟨h0, h1⟩, hd1]
        exact .k (hQ _ _ ⟨u, by rw [e], hu, ⟨sc, i + 1, x, _, get_set hd⟩, fr _, by simp⟩)
      · simp [hb, set_lst hd1, mod_int h0, hd1]
        exact .k (hQ _ _ ⟨u, by rw [e], hu, ⟨sc, i + 1, x, _, get_set hd⟩, fr _, by simp⟩)
    · simp [hi, hd1, ix_lst, mul_int (i := x) (j := 48271) (by omega), mod_int (j := 2147483647) (by omega)]
      simp [set_lst hd1]
      obtain ⟨u, e, hu⟩ := hu (x * 48271 % 2147483647 / 7)
      simp [get_set hd, ix_lst, fdiv_int (j := 7) (by omega), mod_int h0]
      exact .k (hQ _ _ ⟨u, by rw [e], hu, ⟨sc, i + 1, _, c, get_set hd⟩, fr _, by simp⟩)
omit H in
theorem ch8 (z : Str) (hz : z.cps.toList = [97, 98, 99, 100, 101, 102, 103, 104]) (hl : z.length = 8) (u : Nat) (hu : (u : Int) < 8) : ∃ x : Nm, ixW (.str z) (.int (u : Int)) st = .ok (sW x.val) st := by
  have h : ∀ x : Nm, ([97, 98, 99, 100, 101, 102, 103, 104] : List Nat)[x.val]? = some (97 + x.val) ∧ sw x.val = ⟨#[97 + x.val]⟩ := by decide +kernel
  obtain ⟨h1, h2⟩ := h ⟨u, by omega⟩
  refine ⟨⟨u, by omega⟩, ?_⟩
  unfold ixW
  simp only
  rw [if_pos (by rw [hl]; decide), hz, at_nat h1, sW, h2]
  rfl
theorem free_is (hk : 1 < k) (D : Dice st d) :
    Is (callF P k ("_law_free", none) [.ref d] st) fun w st' => ∃ x : Nm, w = sW x.val ∧ Dice st' d ∧ Fr [d] st st' ∧ st'.length = st.length := by
  refine call_is H.free (by omega) rfl fun Q hQ => ?_
  simp [c__law_free]
  refine (next_is H (by omega) D 8 (by omega) (by omega)).bnd ?_
  rintro _ st' ⟨u, rfl, hu, D', F, hl⟩
  obtain ⟨x, e⟩ := ch8 (st := st') ("abcdefgh" : Str) (by decide +kernel) (by decide +kernel) u hu
  simp [e]
  exact .k (hQ _ _ ⟨x, rfl, D', F, hl⟩)
omit H in
theorem dic_ix {l : NL} {x : Nm} {j : Nat} (hn : st[n]? = some (.dic (encN l))) (h : (x, j) ∈ l) : ∃ j, ixW (.ref n) (sW x.val) st = .ok (sW j) st := by
  obtain ⟨j, e⟩ := kget_enc h
  refine ⟨j, ?_⟩
  simp [ixW, hn, keyW, e]
omit H in
theorem isin_str {x : Str} {ws : List W} (hw : ∀ w ∈ ws, flatW w = true) : ∃ b, cop .isin (.str x) (.tup ws) st = .ok (.bl b) st := by
  have : ws.all flatW = true := List.all_eq_true.mpr hw
  exact ⟨_, by simp [cop, isin, inF, this, flatW, orB]; rfl⟩
omit H in
theorem ne_nil {p q : Nat} {ws : List W} (hp : st[p]? = some (.lst ws)) (hq : st[q]? = some (.lst [])) (hd : ∃ ds, mapO (toD st 59) ws = some ds ∧ ds.length = ws.length) : cop .ne (.ref p) (.ref q) st = .ok (.bl (decide (ws ≠ []))) st := by
  obtain ⟨ds, h1, h2⟩ := hd
  cases ws with
  | nil =>
    simp [cop, eqW, toD, hp, hq, mapO, D.eqv, D.eqvs]
  | cons a r =>
    cases ds with
    | nil => simp at h2
    | cons b q => simp [cop, eqW, toD, hp, hq, h1, show mapO (toD st 59) [] = some [] from rfl, D.eqv, D.eqvs]
omit H in
theorem eq_nil {p q : Nat} {ws : List W} (hp : st[p]? = some (.lst ws)) (hq : st[q]? = some (.lst [])) (hd : ∃ ds, mapO (toD st 59) ws = some ds ∧ ds.length = ws.length) : cop .eq (.ref p) (.ref q) st = .ok (.bl (decide (ws = []))) st := by
  obtain ⟨ds, h1, h2⟩ := hd
  cases ws with
  | nil =>
    simp [cop, eqW, toD, hp, hq, mapO, D.eqv, D.eqvs]
  | cons a r =>
    cases ds with
    | nil => simp at h2
    | cons b q => simp [cop, eqW, toD, hp, hq, h1, show mapO (toD st 59) [] = some [] from rfl, D.eqv, D.eqvs]
omit H in
theorem mapO_len {α β : Type} {f : α → Option β} {l : List α} (h : ∀ a ∈ l, ∃ b, f a = some b) : ∃ ds, mapO f l = some ds ∧ ds.length = l.length := by
  induction l with
  | nil => exact ⟨[], rfl, rfl⟩
  | cons a r ih =>
    obtain ⟨b, hb⟩ := h a List.mem_cons_self
    obtain ⟨ds, h1, h2⟩ := ih fun a ha => h a (List.mem_cons_of_mem _ ha)
    exact ⟨b :: ds, by simp [mapO, hb, h1], by simp [h2]⟩
theorem name_is (hk : 1 < k) (D : Dice st d) (N : Nms st n g) {ws : List W} (hw : ∀ w ∈ ws, flatW w = true) :
    Is (callF P k ("_law_name", none) [.ref d, .ref n, .tup ws] st) fun w st' => (w = .non ∨ ∃ x : Nm, x ∈ g ∧ w = sW x.val) ∧ Dice st' d ∧ Fr [d] st st' := by
  obtain ⟨l, hn, nd, hl⟩ := N
  refine call_is H.name (by omega) rfl fun Q hQ => ?_
  have hs : bltW .sorted [.ref n] st = .ok (.ref st.length) (st ++ [.lst ((sortS (l.map fun p => sw p.1.val)).map .str)]) := by
    have := ndk_len nd
    simp [bltW, hn, keysS_enc, show l.length < 64 by omega]
  have hn1 := get_app hn [.lst ((sortS (l.map fun p => sw p.1.val)).map .str)]
  simp [c__law_name, hs, walk_ref (ws := (sortS (l.map fun p => sw p.1.val)).map .str)]
  generalize hst : st ++ [SO.lst ((sortS (l.map fun p => sw p.1.val)).map .str)] = st1 at *
  have hst1 : st1[st.length]? = some (.lst ((sortS (l.map fun p => sw p.1.val)).map .str)) := by rw [← hst]; simp
  have hmem : ∀ w ∈ (sortS (l.map fun p => sw p.1.val)).map W.str, ∃ x j, (x, j) ∈ l ∧ w = sW x.val := by
    intro w hw
    obtain ⟨s, hs, rfl⟩ := List.mem_map.mp hw
    rw [sortS_mem] at hs
    obtain ⟨p, hp, rfl⟩ := List.mem_map.mp hs
    exact ⟨p.1, p.2, hp, rfl⟩
  have hturn : ∀ w ∈ (sortS (l.map fun p => sw p.1.val)).map W.str, ∃ b : Bool, lcT P (callF P (k - 1)) (.var 4) [4] (.name 4) (.some (.cmp .isin (.ix (.var 1) (.var 4)) (.var 2))) [some (.ref d), some (.ref n), some (.tup ws), none, none] w st1 = .ok (if b then some w else none) st1 := by
    intro w hw'
    obtain ⟨x, j, hx, rfl⟩ := hmem w hw'
    obtain ⟨j', e⟩ := dic_ix hn1 hx
    obtain ⟨b, e2⟩ := isin_str (st := st1) (x := sw j') hw
    refine ⟨b, ?_⟩
    simp [lcT, wipe, e, e2]
    cases b <;> simp
  classical
  have hturn2 : ∃ f : W → Option W, (∀ w ∈ (sortS (l.map fun p => sw p.1.val)).map W.str, lcT P (callF P (k - 1)) (.var 4) [4] (.name 4) (.some (.cmp .isin (.ix (.var 1) (.var 4)) (.var 2))) [some (.ref d), some (.ref n), some (.tup ws), none, none] w st1 = .ok (f w) st1) ∧ ∀ w y, f w = some y → y = w := by
    refine ⟨fun w => if h : ∃ b : Bool, lcT P (callF P (k - 1)) (.var 4) [4] (.name 4) (.some (.cmp .isin (.ix (.var 1) (.var 4)) (.var 2))) [some (.ref d), some (.ref n), some (.tup ws), none, none] w st1 = .ok (if b then some w else none) st1 then (if h.choose then some w else none) else none, fun w hw => ?_, fun w y e => ?_⟩
    · have h := hturn w hw
      simp only [dif_pos h]
      exact h.choose_spec
    · simp only at e
      split at e
      · split at e
        · exact (Option.some.inj e).symm
        · cases e
      · cases e
  obtain ⟨f, hf, hf2⟩ := hturn2
  rw [loopC_pure (holds_one hst1) (by simp [sortS_len]; have := ndk_len nd; unfold LIM; omega) hf]
  have hres : ∀ w ∈ ((sortS (l.map fun p => sw p.1.val)).map W.str).filterMap f, ∃ x j, (x, j) ∈ l ∧ w = sW x.val := by
    intro w hw
    obtain ⟨v, hv, e⟩ := List.mem_filterMap.mp hw
    rw [hf2 v w e]
    exact hmem v hv
  have hlen : (((sortS (l.map fun p => sw p.1.val)).map W.str).filterMap f).length ≤ 8 := by
    refine Nat.le_trans (List.length_filterMap_le _ _) ?_
    simp [sortS_len]
    exact ndk_len nd
  generalize ((sortS (l.map fun p => sw p.1.val)).map W.str).filterMap f = rs at *
  have D1 : Dice st1 d := by
    obtain ⟨sc, i, x, c, hd⟩ := D
    exact ⟨sc, i, x, c, by rw [← hst]; exact get_app hd _⟩
  have F1 : Fr [d] st st1 := by rw [← hst]; exact Fr.app
  simp
  rw [ne_nil (ws := rs) (by simp) (by simp) (mapO_len fun w hw => by
    obtain ⟨x, j, _, rfl⟩ := hres w hw
    exact ⟨_, toD_str (by simp)⟩)]
  by_cases hrs : rs = []
  · subst hrs
    simp
    exact .k (hQ _ _ ⟨.inl rfl, D1.fr (M := []) Fr.app (by simp), F1.trans Fr.app⟩)
  · have hpos : 0 < rs.length := List.length_pos_iff.mpr hrs
    simp [hrs, len_ref (ws := rs)]
    refine (next_is H (by omega) (D1.fr (M := []) Fr.app (by simp)) rs.length (by omega) (by omega)).bnd ?_
    rintro _ st' ⟨u, rfl, hu, D', F, _⟩
    have hd1 := D1.lt
    have h1 : st'[st1.length]? = some (.lst rs) := F.get (by simp; omega) (by simp)
    have hu' : u < rs.length := by omega
    simp [ix_lst h1, at_nat (List.getElem?_eq_getElem hu')]
    obtain ⟨x, j, hx, e⟩ := hres _ (List.getElem_mem hu')
    exact .k (hQ _ _ ⟨.inr ⟨x, hl _ hx, e⟩, D', F1.trans (Fr.trans Fr.app F)⟩)
end
end PL


set_option linter.all false
set_option maxRecDepth 100000
set_option autoImplicit false
namespace PL
open MP
open PySem (Str)
section
variable {P : Prog} (H : HasG1 P) {k : Nat} {st : Store} {d n m : Nat} {g : List Nm} {r : Int}
include H
theorem with_is (hk : 0 < k) (N : Nms st n g) {q : Nat} {m : NL} (hq : st[q]? = some (.dic (encN m))) (hm : m.length ≤ 15) :
    Is (callF P k ("_law_with", none) [.ref n, .ref q] st) fun w st' => ∃ p, w = .ref p ∧ Nms st' p (m.map (·.1) ++ g) ∧ Fr [] st st' := by
  obtain ⟨l, hn, nd, hl⟩ := N
  refine call_is H.with_ hk rfl fun Q hQ => ?_
  have hq1 := get_app hq [.dic (encN l)]
  have hne : st.length ≠ q := by have := len_of hq; omega
  have hlen : (encN l).length + (encN m).length ≤ LIM := by
    have := ndk_len nd
    simp [encN, LIM]; omega
  have e1 : bltW .dict [.ref n] st = .ok (.ref st.length) (st ++ [.dic (encN l)]) := by simp [bltW, hn]
  have e2 : bmtR .update (.ref st.length) (st ++ [.dic (encN l)]) [.ref q] (st ++ [.dic (encN l)]) = .ok .non (st ++ [.dic (encN (merge l m))]) := by
    simp [bmtR, bmtW, kindW, hq1, hne, hlen, mergeW_enc]
  simp [c__law_with, e1, e2]
  refine .k (hQ _ _ ⟨_, rfl, ⟨_, get_app0, merge_nd nd m, ?_⟩, Fr.app⟩)
  intro p hp
  rcases merge_mem (List.mem_map_of_mem hp) with h | h
  · exact List.mem_append_left _ h
  · obtain ⟨p', hp', e⟩ := List.mem_map.mp h
    rw [← e]
    exact List.mem_append_right _ (hl p' hp')
theorem leaf_is (hk : 2 < k) (D : Dice st d) (N : Nms st n g) :
    Is (callF P k ("_law_leaf", none) [.ref d, .ref n] st) fun w st' => ∃ t, w = enc t ∧ wf g t ∧ size t = 1 ∧ deep t = 1 ∧ Dice st' d ∧ Fr [d] st st' := by
  refine call_is H.leaf (by omega) rfl fun Q hQ => ?_
  simp [c__law_leaf]
  refine (next_is H (by omega) (D.fr (M := []) Fr.app (by simp)) 16 (by omega) (by omega)).bnd ?_
  rintro _ st1 ⟨u, rfl, hu, D1, F1, _⟩
  have hd := D.lt
  have hx := F1.get (i := st.length) (by simp; omega) get_app0
  have N1 : Nms st1 n g := (N.fr (M := []) Fr.app (by simp)).fr F1 (by simpa using N.ne_d D)
  simp
  obtain ⟨ws, hws, e⟩ : ∃ ws, (∀ w ∈ ws, flatW w = true) ∧ ixW (.ref st.length) (.int (if (u : Int) = 15 then 1 else 0)) st1 = .ok (.tup ws) st1 := by
    by_cases h : (u : Int) = 15
    · rw [if_pos h, ix_lst hx]
      refine ⟨_, ?_, by simp; rfl⟩
      simp [flatW]
    · rw [if_neg h, ix_lst hx]
      refine ⟨_, ?_, by simp; rfl⟩
      simp [flatW]
  try simp at e
  simp [e]
  refine (name_is H (by omega) D1 N1 hws).bnd ?_
  rintro w st2 ⟨hw, D2, F2⟩
  have N2 : Nms st2 n g := N1.fr F2 (by simpa using N1.ne_d D1)
  have F02 : Fr [d] st st2 := (Fr.app.trans F1).trans F2
  have num : ∀ st2, Dice st2 d → Fr [d] st st2 → Is (fin ((evE P (callF P (k - 1)) (.tup (.cons (.cst (.str (sw 8))) (.cons (.ix (.lst (.cons (.call "_law_next" (.cons (.var 0) (.cons (.cst (.int 5)) .nil))) (.cons (.bin .sub (.call "_law_next" (.cons (.var 0) (.cons (.cst (.int 40)) .nil))) (.cst (.int 20))) (.cons (.bin .pow (.cst (.int 10)) (.cst (.int 6))) .nil)))) (.ix (.lst (.cons (.cst (.int 0)) (.cons (.cst (.int 0)) (.cons (.cst (.int 1)) (.cons (.cst (.int 1)) (.cons (.cst (.int 1)) (.cons (.cst (.int 1)) (.cons (.cst (.int 1)) (.cons (.cst (.int 2)) .nil))))))))) (.call "_law_next" (.cons (.var 0) (.cons (.cst (.int 8)) .nil))))) .nil))) [some (.ref d), some (.ref n), some (.tup ws), some w] st2).bindS fun w st => .ret w st)) Q := by
    intro st2 D2 F2
    simp
    refine (next_is H (by omega) D2 5 (by omega) (by omega)).bnd ?_
    rintro _ st3 ⟨u3, rfl, hu3, D3, F3, _⟩
    try simp
    refine (next_is H (by omega) D3 40 (by omega) (by omega)).bnd ?_
    rintro _ st4 ⟨u4, rfl, hu4, D4, F4, _⟩
    simp [show ∀ st, bop .pow (.int 10) (.int 6) st = .ok (.int 1000000) st from fun _ => rfl]
    refine (next_is H (by omega) (D4.fr (M := []) Fr.app (by simp)) 8 (by omega) (by omega)).bnd ?_
    rintro _ st5 ⟨u5, rfl, hu5, D5, F5, _⟩
    have hd4 := D4.lt
    have h0 := F5.get (i := st4.length) (by simp; omega) get_app0
    have h1 := F5.get (i := st4.length + 1) (by simp; omega) get_app1
    have FF : Fr [d] st st5 := ((F2.trans F3).trans F4).trans (Fr.app.trans F5)
    have fin : ∀ i : Int, numOk i → Is (R.ok (.tup [sW 8, .int i]) st5) Q := fun i hi => .k (hQ _ _ ⟨.num i, rfl, hi, rfl, rfl, D5, FF⟩)
    rcases (by omega : u5 = 0 ∨ u5 = 1 ∨ u5 = 2 ∨ u5 = 3 ∨ u5 = 4 ∨ u5 = 5 ∨ u5 = 6 ∨ u5 = 7) with h | h | h | h | h | h | h | h <;> subst h <;> simp [ix_lst h0, ix_lst h1, at?, place] <;> exact fin _ (by unfold numOk; omega)
  rcases hw with rfl | ⟨x, hx, rfl⟩
  · simp
    have := num st2 D2 F02
    simpa using this
  · simp
    refine (next_is H (by omega) D2 3 (by omega) (by omega)).bnd ?_
    rintro _ st3 ⟨u3, rfl, hu3, D3, F3, _⟩
    simp
    by_cases h : 0 < u3
    · simp [h]
      exact .k (hQ _ _ ⟨.name x, rfl, hx, rfl, rfl, D3, F02.trans F3⟩)
    · simp [h]
      have := num st3 D3 (F02.trans F3)
      simpa using this
end
end PL


set_option linter.all false
set_option maxRecDepth 100000
set_option autoImplicit false
namespace PL
open MP
open PySem (Str)
structure HasG2 (P : Prog) : Prop extends HasG1 P where
  expr : P.fn ("_law_expr", none) = some c__law_expr
  let_ : P.fn ("_law_let", none) = some c__law_let
  use_ : P.fn ("_law_use", none) = some c__law_use
  catch_ : P.fn ("_law_catch", none) = some c__law_catch
/-- dice and room -/
structure GS (st : Store) (d m : Nat) (r : Int) : Prop where
  d : Dice st d
  r : Room st m r
def phi (r : Int) : Nat := (r - 4).toNat
section
variable {st st' : Store} {d n m : Nat} {g : List Nm} {r : Int}
theorem GS.app (G : GS st d m r) (l : List SO) : GS (st ++ l) d m r := ⟨G.d.fr (M := []) Fr.app (by simp), G.r.fr (M := []) Fr.app (by simp)⟩
theorem Nms.app (N : Nms st n g) (l : List SO) : Nms (st ++ l) n g := N.fr (M := []) Fr.app (by simp)
theorem Nms.nx (N : Nms st n g) (G : GS st d m r) (F : Fr [d, m] st st') : Nms st' n g := N.fr F (by
  have := N.ne_d G.d
  have := N.ne_r G.r
  simp; omega)
theorem GS.fr1 (G : GS st d m r) (D : Dice st' d) (F : Fr [d] st st') : GS st' d m r := ⟨D, G.r.fr F (by simpa using G.r.ne_d G.d)⟩
theorem GS.new (G : GS st d m r) : st.length ∉ [d, m] := by
  have := G.d.lt
  have := G.r.lt
  simp; omega
theorem GS.new1 (G : GS st d m r) : st.length + 1 ∉ [d, m] := by
  have := G.d.lt
  have := G.r.lt
  simp; omega
theorem GS.new2 (G : GS st d m r) : st.length + 2 ∉ [d, m] := by
  have := G.d.lt
  have := G.r.lt
  simp; omega
/-- what a drawing comes to -/
def Pst (d m : Nat) (g : List Nm) (r : Int) (own lev : Nat) (st : Store) (w : W) (st' : Store) : Prop :=
  ∃ t r', w = enc t ∧ wf g t ∧ GS st' d m r' ∧ Fr [d, m] st st' ∧ r' ≤ r ∧ size t + 15 * phi r' ≤ own + 15 * phi r ∧ deep t ≤ lev
end
section
variable {P : Prog} (H : HasG2 P) {k : Nat} {st : Store} {d n m : Nat} {g : List Nm} {r : Int}
include H
theorem next2 (hk : 0 < k) (G : GS st d m r) (v : Int) (h0 : 0 < v) (h1 : v < 1073741824) :
    Is (callF P k ("_law_next", none) [.ref d, .int v] st) fun w st' => ∃ u : Nat, w = .int (u : Int) ∧ (u : Int) < v ∧ GS st' d m r ∧ Fr [d, m] st st' :=
  (next_is H.toHasG1 hk G.d v h0 h1).mono fun w st' ⟨u, e, hu, D, F, _⟩ => ⟨u, e, hu, G.fr1 D F, F.wide (by simp)⟩
theorem free2 (hk : 1 < k) (G : GS st d m r) :
    Is (callF P k ("_law_free", none) [.ref d] st) fun w st' => ∃ x : Nm, w = sW x.val ∧ GS st' d m r ∧ Fr [d, m] st st' :=
  (free_is H.toHasG1 hk G.d).mono fun w st' ⟨x, e, D, F, _⟩ => ⟨x, e, G.fr1 D F, F.wide (by simp)⟩
theorem name2 (hk : 1 < k) (G : GS st d m r) (N : Nms st n g) {ws : List W} (hw : ∀ w ∈ ws, flatW w = true) :
    Is (callF P k ("_law_name", none) [.ref d, .ref n, .tup ws] st) fun w st' => (w = .non ∨ ∃ x : Nm, x ∈ g ∧ w = sW x.val) ∧ GS st' d m r ∧ Fr [d, m] st st' :=
  (name_is H.toHasG1 hk G.d N hw).mono fun w st' ⟨h, D, F⟩ => ⟨h, G.fr1 D F, F.wide (by simp)⟩
theorem leaf2 (hk : 2 < k) (G : GS st d m r) (N : Nms st n g) :
    Is (callF P k ("_law_leaf", none) [.ref d, .ref n] st) fun w st' => ∃ t, w = enc t ∧ wf g t ∧ size t = 1 ∧ deep t = 1 ∧ GS st' d m r ∧ Fr [d, m] st st' :=
  (leaf_is H.toHasG1 hk G.d N).mono fun w st' ⟨t, e, h1, h2, h3, D, F⟩ => ⟨t, e, h1, h2, h3, G.fr1 D F, F.wide (by simp)⟩
theorem with2 (hk : 0 < k) (G : GS st d m r) (N : Nms st n g) {l : NL} (hl : l.length ≤ 15) :
    Is (callF P k ("_law_with", none) [.ref n, .ref st.length] (st ++ [.dic (encN l)])) fun w st' => ∃ p, w = .ref p ∧ Nms st' p (l.map (·.1) ++ g) ∧ GS st' d m r ∧ Fr [d, m] st st' :=
  (with_is H.toHasG1 hk (N.app [.dic (encN l)]) get_app0 hl).mono fun w st' ⟨p, e, N', F⟩ =>
    ⟨p, e, N', ⟨(G.app _).d.fr F (by simp), (G.app _).r.fr F (by simp)⟩, (Fr.app.trans F).wide (by simp)⟩
omit H in
@[simp] theorem dicR0 : dicR [] st = .ok (.ref st.length) (st ++ [.dic (encN [])]) := (rfl)
omit H in
@[simp] theorem dicR1 {x : Nm} {j : Nat} : dicR [(.inr (sw x.val), sW j)] st = .ok (.ref st.length) (st ++ [.dic (encN [(x, j)])]) := (rfl)
omit H in
@[simp] theorem dicR2 {x y : Nm} {j i : Nat} : dicR [(.inr (sw x.val), sW j), (.inr (sw y.val), sW i)] st = .ok (.ref st.length) (st ++ [.dic (encN (merge [] [(x, j), (y, i)]))]) := by
  rw [← mergeW_enc]; rfl
/-- the drawings of an expression from any room that is no greater -/
def ExprAt (P : Prog) (p : Nat) : Prop := ∀ (k : Nat) (st : Store) (d n m : Nat) (g : List Nm) (r : Int), phi r ≤ p → 2 * p + 5 ≤ k → GS st d m r → Nms st n g →
  Is (callF P k ("_law_expr", none) [.ref d, .ref n, .ref m] st) (Pst d m g r 1 (3 * p + 2) st)
omit H in
theorem phi_mono {r s : Int} (h : r ≤ s) : phi r ≤ phi s := by unfold phi; omega
theorem let_is {p : Nat} (E : ExprAt P p) (hk : 2 * p + 6 ≤ k) (hr : phi r ≤ p) (G : GS st d m r) (N : Nms st n g) (way : Int) :
    Is (callF P k ("_law_let", none) [.ref d, .ref n, .ref m, .int way] st) (Pst d m g r 16 (3 * p + 5) st) := by
  refine call_is H.let_ (by omega) rfl fun Q hQ => ?_
  simp [c__law_let]
  refine (free2 H (by omega) G).bnd ?_
  rintro _ st1 ⟨x, rfl, G1, F1⟩
  have N1 := N.nx G F1
  by_cases hw : way < 10
  · simp [hw]
    refine (E _ _ _ _ _ _ _ hr (by omega) G1 N1).bnd ?_
    rintro _ st2 ⟨a, r2, rfl, wa, G2, F2, hr2, sa, da⟩
    have N2 := N1.nx G1 F2
    try simp
    refine (with2 H (by omega) G2 N2 (by simp)).bnd ?_
    rintro _ st3 ⟨p3, rfl, N3, G3, F3⟩
    have := phi_mono hr2
    refine (E _ _ _ _ _ _ _ (by omega) (by omega) G3 N3).bnd ?_
    rintro _ st4 ⟨b, r4, rfl, wb, G4, F4, hr4, sb, db⟩
    try simp
    refine .k (hQ _ _ ⟨.letp x a b, r4, rfl, ⟨wa, wb⟩, G4, ((F1.trans F2).trans F3).trans F4, by omega, ?_, ?_⟩)
    · simp [size]; omega
    · simp [deep]; omega
  · simp [hw]
    by_cases hw2 : way = 10
    · simp [hw2]
      refine (free2 H (by omega) G1).bnd ?_
      rintro _ st2 ⟨y, rfl, G2, F2⟩
      have N2 := N1.nx G1 F2
      try simp
      refine (with2 H (by omega) G2 N2 (by simp)).bnd ?_
      rintro _ st3 ⟨p3, rfl, N3, G3, F3⟩
      refine (E _ _ _ _ _ _ _ hr (by omega) G3 N3).bnd ?_
      rintro _ st4 ⟨a, r4, rfl, wa, G4, F4, hr4, sa, da⟩
      have N4 := (N2.nx G2 F3).nx G3 F4
      try simp
      refine (with2 H (by omega) G4 N4 (by simp)).bnd ?_
      rintro _ st5 ⟨p5, rfl, N5, G5, F5⟩
      have := phi_mono hr4
      refine (E _ _ _ _ _ _ _ (by omega) (by omega) G5 N5).bnd ?_
      rintro _ st6 ⟨b, r6, rfl, wb, G6, F6, hr6, sb, db⟩
      have N6 := (N4.nx G4 F5).nx G5 F6
      try simp
      refine (leaf2 H (by omega) G6 N6).bnd ?_
      rintro _ st7 ⟨c, rfl, wc, sc, dc, G7, F7⟩
      try simp
      refine .k (hQ _ _ ⟨.letp x (.fnp y a) (.bi .add (.bi .call (.name x) c) b), r6, rfl, ⟨wa, ⟨by simp [wf], wc.mono (by simp +contextual)⟩, wb⟩, G7, (((((F1.trans F2).trans F3).trans F4).trans F5).trans F6).trans F7, by omega, ?_, ?_⟩)
      · simp [size]; omega
      · simp [deep]; omega
    · simp [hw2]
      refine (with2 H (by omega) G1 N1 (by simp)).bnd ?_
      rintro _ st2 ⟨p2, rfl, N2, G2, F2⟩
      refine (E _ _ _ _ _ _ _ hr (by omega) G2 N2).bnd ?_
      rintro _ st3 ⟨a, r3, rfl, wa, G3, F3, hr3, sa, da⟩
      have N3 := (N1.nx G1 F2).nx G2 F3
      try simp
      refine (leaf2 H (by omega) G3 N3).bnd ?_
      rintro _ st4 ⟨c, rfl, wc, sc, dc, G4, F4⟩
      refine .k (hQ _ _ ⟨.letp x (.un .box c) (.bi .add a (.un .look (.name x))), r3, rfl, ⟨wc, wa, by simp [wf]⟩, G4, ((F1.trans F2).trans F3).trans F4, by omega, ?_, ?_⟩)
      · simp [size]; omega
      · simp [deep]; omega
omit H in
@[simp] theorem nm_lt68 (x : Nm) : x.val < 68 := nm_lt x
omit H in
@[simp] theorem eq_sw {i j : Nat} (hi : i < 68) (hj : j < 68) : cop .eq (sW i) (sW j) st = .ok (.bl (decide (i = j))) st := by
  rw [eq_str (okS_sw i) (okS_sw j), sw_beq hi hj]
omit H in
@[simp] theorem ne_sw {i j : Nat} (hi : i < 68) (hj : j < 68) : cop .ne (sW i) (sW j) st = .ok (.bl (!decide (i = j))) st := by
  rw [ne_str (okS_sw i) (okS_sw j), sw_beq hi hj]
theorem use_is {p : Nat} (E : ExprAt P p) (hk : 2 * p + 6 ≤ k) (hr : phi r ≤ p) (G : GS st d m r) (N : Nms st n g) :
    Is (callF P k ("_law_use", none) [.ref d, .ref n, .ref m] st) (Pst d m g r 16 (3 * p + 5) st) := by
  refine call_is H.use_ (by omega) rfl fun Q hQ => ?_
  simp [c__law_use]
  refine (next2 H (by omega) (G.app _) 4 (by omega) (by omega)).bnd ?_
  rintro _ st1 ⟨u, rfl, hu, G1, F1⟩
  have N1 := (N.app _).nx (G.app _) F1
  have hx := F1.get G.new get_app0
  obtain ⟨kd, hkd, e⟩ : ∃ kd, (kd = 16 ∨ kd = 19 ∨ kd = 38) ∧ ixW (.ref st.length) (.int (u : Int)) st1 = .ok (sW kd) st1 := by
    rcases (by omega : u = 0 ∨ u = 1 ∨ u = 2 ∨ u = 3) with h | h | h | h <;> subst h <;> simp [ix_lst hx]
  simp [e]
  refine (next2 H (by omega) (G1.app _) 9 (by omega) (by omega)).bnd ?_
  rintro _ st2 ⟨u2, rfl, hu2, G2, F2⟩
  have N2 := (N1.app _).nx (G1.app _) F2
  have hx2 := F2.get G1.new get_app0
  try simp
  obtain ⟨ws, hws, e2⟩ : ∃ ws, (∀ w ∈ ws, flatW w = true) ∧ ixW (.ref st1.length) (.int (if (u2 : Int) = 8 then 1 else 0)) st2 = .ok (.tup ws) st2 := by
    by_cases h : (u2 : Int) = 8
    · rw [if_pos h, ix_lst hx2]
      refine ⟨_, ?_, by simp; rfl⟩
      simp [flatW]
    · rw [if_neg h, ix_lst hx2]
      refine ⟨_, ?_, by simp; rfl⟩
      simp [flatW]
  try simp at e2
  simp [e2]
  refine (name2 H (by omega) G2 N2 hws).bnd ?_
  rintro w st3 ⟨hw, G3, F3⟩
  have N3 := N2.nx G2 F3
  have F13 : Fr [d, m] st st3 := (Fr.app.trans F1).trans ((Fr.app.trans F2).trans F3)
  rcases hw with rfl | ⟨x, hx, rfl⟩
  · simp
    refine (leaf2 (k := k - 1) H (by omega) G3 N3).mono ?_
    rintro _ st4 ⟨t, rfl, wt, sz, dp, G4, F4⟩
    exact hQ _ _ ⟨t, r, rfl, wt, G4, F13.trans F4, by omega, by omega, by omega⟩
  · simp
    have hkl : kd < 68 := by omega
    simp [hkl]
    by_cases h16 : kd = 16
    · simp [h16]
      refine (E _ _ _ _ _ _ _ hr (by omega) G3 N3).bnd ?_
      rintro _ st4 ⟨a, r4, rfl, wa, G4, F4, hr4, sa, da⟩
      try simp
      refine .k (hQ _ _ ⟨.bi .call (.name x) a, r4, rfl, ⟨hx, wa⟩, G4, F13.trans F4, by omega, ?_, ?_⟩)
      · simp [size]; omega
      · simp [deep]; omega
    · simp [h16, hkl]
      by_cases h19 : kd = 19
      · simp [h19]
        refine (E _ _ _ _ _ _ _ hr (by omega) G3 N3).bnd ?_
        rintro _ st4 ⟨a, r4, rfl, wa, G4, F4, hr4, sa, da⟩
        have := phi_mono hr4
        try simp
        refine (next2 H (by omega) (G4.app _) 2 (by omega) (by omega)).bnd ?_
        rintro _ st5 ⟨u5, rfl, hu5, G5, F5⟩
        have hx5 := F5.get G4.new get_app0
        have FF := (F13.trans F4).trans (Fr.app.trans F5)
        rcases (by omega : u5 = 0 ∨ u5 = 1) with h | h <;> subst h <;> simp [ix_lst hx5]
        · refine .k (hQ _ _ ⟨.un .look (.name x), r4, rfl, hx, G5, FF, by omega, ?_, ?_⟩)
          · simp [size]; omega
          · simp [deep]
        · refine .k (hQ _ _ ⟨.bi .put (.name x) a, r4, rfl, ⟨hx, wa⟩, G5, FF, by omega, ?_, ?_⟩)
          · simp [size]; omega
          · simp [deep]; omega
      · simp [h19]
        refine (E _ _ _ _ _ _ _ hr (by omega) G3 N3).bnd ?_
        rintro _ st4 ⟨a, r4, rfl, wa, G4, F4, hr4, sa, da⟩
        have := phi_mono hr4
        try simp
        refine (next2 H (by omega) (G4.app _) 4 (by omega) (by omega)).bnd ?_
        rintro _ st5 ⟨u5, rfl, hu5, G5, F5⟩
        have hx5 := F5.get G4.new get_app0
        have FF := (F13.trans F4).trans (Fr.app.trans F5)
        by_cases h : (u5 : Int) = 3
        · simp [h, ix_lst hx5]
          refine .k (hQ _ _ ⟨.un .drop (.name x), r4, rfl, hx, G5, FF, by omega, ?_, ?_⟩)
          · simp [size]; omega
          · simp [deep]
        · simp [h, ix_lst hx5]
          refine .k (hQ _ _ ⟨.bi .go (.name x) a, r4, rfl, ⟨hx, wa⟩, G5, FF, by omega, ?_, ?_⟩)
          · simp [size]; omega
          · simp [deep]; omega
omit H in
theorem rot_ix (x : Nm) : ∃ (y : Nm) (j : Nat), x ≠ y ∧ bmtR .index (.str ("bcdefgha" : Str)) st [sW x.val] st = .ok (.int (j : Int)) st ∧ ixW (.str ("abcdefgh" : Str)) (.int (j : Int)) st = .ok (sW y.val) st := by
  have h : ∀ x : Nm, ∃ y : Nm, x ≠ y ∧ idx8 (sw x.val) rot8s = some y.val := by decide +kernel
  obtain ⟨y, hne, e⟩ := h x
  obtain ⟨y', e'⟩ := ch8 (st := st) ("abcdefgh" : Str) (by decide +kernel) (by decide +kernel) y.val (by omega)
  have h2 : ∀ y : Nm, ([97, 98, 99, 100, 101, 102, 103, 104] : List Nat)[y.val]? = some (97 + y.val) ∧ sw y.val = ⟨#[97 + y.val]⟩ := by decide +kernel
  refine ⟨y, y.val, hne, ?_, ?_⟩
  · simp [bmtR, bmtW, show (Str.ofString "bcdefgha") = rot8 from rfl, e]
  · unfold ixW
    simp only
    rw [if_pos (by decide +kernel), show (Str.cps "abcdefgh").toList = [97, 98, 99, 100, 101, 102, 103, 104] by decide +kernel, at_nat (h2 y).1, sW, (h2 y).2]
    rfl
theorem catch_is {p : Nat} (E : ExprAt P p) (hk : 2 * p + 6 ≤ k) (hr : phi r ≤ p) (G : GS st d m r) (N : Nms st n g) :
    Is (callF P k ("_law_catch", none) [.ref d, .ref n, .ref m] st) (Pst d m g r 16 (3 * p + 5) st) := by
  refine call_is H.catch_ (by omega) rfl fun Q hQ => ?_
  simp [c__law_catch]
  refine (free2 H (by omega) G).bnd ?_
  rintro _ st1 ⟨x, rfl, G1, F1⟩
  have N1 := N.nx G F1
  obtain ⟨y, j, hxy, e1, e2⟩ := rot_ix (st := st1) x
  simp [e1, e2]
  refine (E _ _ _ _ _ _ _ hr (by omega) G1 N1).bnd ?_
  rintro _ st2 ⟨b0, r2, rfl, wb0, G2, F2, hr2, sb0, db0⟩
  have N2 := N1.nx G1 F2
  try simp
  refine (next2 H (by omega) G2 4 (by omega) (by omega)).bnd ?_
  rintro _ st3 ⟨u3, rfl, hu3, G3, F3⟩
  have N3 := N2.nx G2 F3
  try simp
  have hr2' := phi_mono hr2
  refine Is.br (fun ρ st' => ∃ b : Pt, ρ = [some (.ref d), some (.ref n), some (.ref m), some (sW x.val), some (sW y.val), some (enc b), none, none, none, none, none] ∧ GS st' d m r2 ∧ Nms st' n g ∧ Fr [d, m] st st' ∧ wf g b ∧ size b ≤ size b0 + 3 ∧ deep b ≤ 3 * p + 4) ?_ ?_ ?_
  · intro _ C hC
    try simp
    refine (leaf2 H (by omega) G3 N3).bnd ?_
    rintro _ st4 ⟨t, rfl, wt, szt, dt, G4, F4⟩
    try simp
    exact hC _ _ ⟨.bi .add (.un .throw t) b0, rfl, G4, N3.nx G3 F4, ((F1.trans F2).trans F3).trans F4, ⟨wt, wb0⟩, by simp [size]; omega, by simp [deep]; omega⟩
  · intro _ C hC
    try simp
    exact hC _ _ ⟨b0, rfl, G3, N3, (F1.trans F2).trans F3, wb0, by omega, by omega⟩
  rintro _ st4 ⟨b, rfl, G4, N4, F4, wb, sb, db⟩
  simp
  refine (with2 H (by omega) G4 N4 (by have := ndk_len (merge_nd (l := []) (by simp [NDK]) [(x, 37), (y, 38)]); omega)).bnd ?_
  rintro _ st5 ⟨p5, rfl, N5, G5, F5⟩
  replace N5 : Nms st5 p5 (x :: y :: g) := by
    obtain ⟨l, h1, h2, h3⟩ := N5
    refine ⟨l, h1, h2, fun q hq => ?_⟩
    rcases List.mem_append.mp (h3 q hq) with h | h
    · rcases merge_mem h with h | h
      · simp at h ⊢
        rcases h with h | h
        · exact .inl h
        · exact .inr (.inl h)
      · simp at h
    · exact List.mem_cons_of_mem _ (List.mem_cons_of_mem _ h)
  refine (leaf2 H (by omega) G5 N5).bnd ?_
  rintro _ st6 ⟨c, rfl, wc, sc, dc, G6, F6⟩
  have N6 := N5.nx G5 F6
  try simp
  refine (E _ _ _ _ _ _ _ (by omega) (by omega) G6 N6).bnd ?_
  rintro _ st7 ⟨a, r7, rfl, wa, G7, F7, hr7, sa, da⟩
  have N7 := N6.nx G6 F7
  have hr7' := phi_mono hr7
  try simp
  refine (E _ _ _ _ _ _ _ (by omega) (by omega) G7 N7).bnd ?_
  rintro _ st8 ⟨h, r8, rfl, wh, G8, F8, hr8, sh, dh⟩
  have hr8' := phi_mono hr8
  try simp
  rw [add_lst get_app0 get_app1 (by simp [LIM])]
  simp
  rw [append_ref get_app2 get_app2 (by simp [LIM])]
  simp
  refine (next2 H (by omega) (G8.app _) 8 (by omega) (by omega)).bnd ?_
  rintro _ st9 ⟨u, rfl, hu, G9, F9⟩
  have hx := F9.get G8.new2 get_app2
  have FF : Fr [d, m] st st9 := (((F4.trans F5).trans F6).trans F7).trans (F8.trans (Fr.app.trans F9))
  have hxg : x ∈ x :: y :: g := by simp
  have hyg : y ∈ x :: y :: g := by simp
  have done : ∀ t : Pt, wf (x :: y :: g) t → size t ≤ size a + size h + 6 → deep t ≤ 3 * p + 4 → Is (R.ok (.tup [sW 22, enc b, sW x.val, sW y.val, enc t]) st9) Q := by
    intro t wt st dt
    refine .k (hQ _ _ ⟨.cat b x y t, r8, rfl, ⟨hxy, wb, wt⟩, G9, FF, by omega, ?_, ?_⟩)
    · simp [size]; omega
    · simp [deep]; omega
  have := size_pos h
  have := size_pos a
  have one : wf (x :: y :: g) (.bi .go (.name y) c) := ⟨hyg, wc⟩
  have two : wf (x :: y :: g) (.bi .go (.name y) a) := ⟨hyg, wa⟩
  rcases (by omega : u = 0 ∨ u = 1 ∨ u = 2 ∨ u = 3 ∨ u = 4 ∨ u = 5 ∨ u = 6 ∨ u = 7) with e | e | e | e | e | e | e | e <;> subst e <;> simp [ix_lst hx]
  · exact done h wh (by omega) (by omega)
  · exact done (.bi .go (.name y) c) one (by simp [size]; omega) (by simp [deep]; omega)
  · exact done (.bi .go (.name y) a) two (by simp [size]; omega) (by simp [deep]; omega)
  · exact done (.bi .add (.bi .go (.name y) (.num 1)) (.bi .go (.name y) a)) ⟨⟨hyg, by unfold wf numOk; omega⟩, two⟩ (by simp [size]; omega) (by simp [deep]; omega)
  · exact done (.letp x (.bi .go (.name y) a) (.bi .add (.name x) (.un .drop (.name y)))) ⟨two, by simp [wf], by simp [wf]⟩ (by simp [size]; omega) (by simp [deep]; omega)
  · exact done (.bi .add (.un .say (.name x)) (.bi .go (.name y) c)) ⟨hxg, one⟩ (by simp [size]; omega) (by simp [deep]; omega)
  · exact done (.ite (.name x) (.bi .go (.name y) a) (.bi .go (.name y) c)) ⟨hxg, two, one⟩ (by simp [size]; omega) (by simp [deep]; omega)
  · exact done (.bi .add (.un .drop (.name y)) (.bi .go (.name y) c)) ⟨hyg, one⟩ (by simp [size]; omega) (by simp [deep]; omega)
theorem expr_leaf {p : Nat} (hk : 4 ≤ k) (G : GS st d m r) (N : Nms st n g) {s : Int} (hs : r ≤ s) {Q : W → Store → Prop} {st0 : Store} (F : Fr [d, m] st0 st) (hQ : ∀ a st', Pst d m g s 1 (3 * p + 2) st0 a st' → Q a st') :
    Is ((callF P (k - 1) ("_law_leaf", none) [.ref d, .ref n] st)) Q :=
  (leaf2 H (by omega) G N).mono fun w st' ⟨t, e, wt, sz, dp, G', F'⟩ => hQ _ _ ⟨t, r, e, wt, G', F.trans F', hs, by have := phi_mono hs; omega, by omega⟩
theorem expr_at (p : Nat) : ExprAt P p := by
  induction p with
  | zero =>
    intro k st d n m g r hr hk G N
    refine call_is H.expr (by omega) rfl fun Q hQ => ?_
    have hm := G.r
    unfold Room at hm
    have h4 : r - 1 < 4 := by unfold phi at hr; omega
    have G1 : GS (st.set m (.lst [.int (r - 1)])) d m (r - 1) := ⟨G.d.fr (Fr.set (M := [m]) (by simp)) (by simpa using (G.r.ne_d G.d).symm), get_set hm⟩
    have F1 : Fr [d, m] st (st.set m (.lst [.int (r - 1)])) := Fr.set (by simp)
    have N1 := N.nx G F1
    simp [c__law_expr, hm, ix_lst hm, set_lst hm]
    generalize st.set m (.lst [.int (r - 1)]) = st1 at *
    refine (next2 H (by omega) G1 22 (by omega) (by omega)).bnd ?_
    rintro _ st2 ⟨u, rfl, hu, G2, F2⟩
    have hm2 := G2.r
    unfold Room at hm2
    simp [ix_lst hm2, h4]
    exact expr_leaf (p := 0) (k := k) H (by omega) G2 (N1.nx G1 F2) (by omega) (F1.trans F2) hQ
  | succ p ih =>
    intro k st d n m g r hr hk G N
    refine call_is H.expr (by omega) rfl fun Q hQ => ?_
    have hm := G.r
    unfold Room at hm
    have G1 : GS (st.set m (.lst [.int (r - 1)])) d m (r - 1) := ⟨G.d.fr (Fr.set (M := [m]) (by simp)) (by simpa using (G.r.ne_d G.d).symm), get_set hm⟩
    have F1 : Fr [d, m] st (st.set m (.lst [.int (r - 1)])) := Fr.set (by simp)
    have N1 := N.nx G F1
    simp [c__law_expr, hm, ix_lst hm, set_lst hm]
    generalize st.set m (.lst [.int (r - 1)]) = st1 at *
    refine (next2 H (by omega) G1 22 (by omega) (by omega)).bnd ?_
    rintro _ st2 ⟨u, rfl, hu, G2, F2⟩
    have hm2 := G2.r
    unfold Room at hm2
    have N2 := N1.nx G1 F2
    have F02 := F1.trans F2
    simp [ix_lst hm2]
    by_cases h4 : r - 1 < 4
    · simp [h4]
      exact expr_leaf H (k := k) (by omega) G2 N2 (by omega) F02 hQ
    simp [h4]
    by_cases hu2 : (u : Int) < 2
    · simp [hu2]
      exact expr_leaf H (k := k) (by omega) G2 N2 (by omega) F02 hQ
    simp [hu2]
    have hp : phi (r - 1) ≤ p := by unfold phi at hr ⊢; omega
    have hpp : phi r = phi (r - 1) + 1 := by unfold phi; omega
    have fin : ∀ {own lev : Nat} {w : W} {st' : Store}, own ≤ 16 → lev ≤ 3 * p + 5 → Pst d m g (r - 1) own lev st2 w st' → Q w st' := by
      rintro own lev w st' ho hl ⟨t, r', e, wt, G', F', h1, h2, h3⟩
      exact hQ _ _ ⟨t, r', e, wt, G', F02.trans F', by omega, by omega, by omega⟩
    have un : ∀ (o : U) {st' : Store} {a : W}, Pst d m g (r - 1) 1 (3 * p + 2) st2 a st' → Q (.tup [sW o.ix, a]) st' := by
      rintro o st' _ ⟨a, r', rfl, wa, G', F', h1, h2, h3⟩
      exact fin (own := 2) (lev := 3 * p + 3) (by omega) (by omega) ⟨.un o a, r', rfl, wa, G', F', h1, by simp [size]; omega, by simp [deep]; omega⟩
    by_cases h5 : (u : Int) < 5
    · simp [h5]
      have e1 : ∃ o : B, ixW (.ref st2.length) (.int ((u : Int) - 2)) (st2 ++ [.lst [sW 11, sW 12, sW 13]]) = .ok (sW o.ix) (st2 ++ [.lst [sW 11, sW 12, sW 13]]) := by
        rcases (by omega : u = 2 ∨ u = 3 ∨ u = 4) with h | h | h <;> subst h
        · exact ⟨.add, by rw [ix_lst get_app0]; rfl⟩
        · exact ⟨.take, by rw [ix_lst get_app0]; rfl⟩
        · exact ⟨.less, by rw [ix_lst get_app0]; rfl⟩
      obtain ⟨o, e1⟩ := e1
      simp [e1]
      refine (ih _ _ _ _ _ _ _ hp (by omega) (G2.app _) (N2.app _)).bnd ?_
      rintro _ st3 ⟨a, r3, rfl, wa, G3, F3, hr3, sa, da⟩
      have := phi_mono hr3
      try simp
      refine (ih _ _ _ _ _ _ _ (by omega) (by omega) G3 ((N2.app _).nx (G2.app _) F3)).bnd ?_
      rintro _ st4 ⟨b, r4, rfl, wb, G4, F4, hr4, sb, db⟩
      try simp
      exact .k (fin (own := 3) (lev := 3 * p + 3) (by omega) (by omega) ⟨.bi o a b, r4, rfl, ⟨wa, wb⟩, G4, (Fr.app.trans F3).trans F4, by omega, by simp [size]; omega, by simp [deep]; omega⟩)
    simp [h5]
    by_cases h55 : (u : Int) = 5
    · simp [h55]
      refine (ih _ _ _ _ _ _ _ hp (by omega) G2 N2).bnd ?_
      rintro _ st3 ⟨a, r3, rfl, wa, G3, F3, hr3, sa, da⟩
      have := phi_mono hr3
      have N3 := N2.nx G2 F3
      try simp
      refine (ih _ _ _ _ _ _ _ (by omega) (by omega) G3 N3).bnd ?_
      rintro _ st4 ⟨b, r4, rfl, wb, G4, F4, hr4, sb, db⟩
      have := phi_mono hr4
      try simp
      refine (ih _ _ _ _ _ _ _ (by omega) (by omega) G4 (N3.nx G3 F4)).bnd ?_
      rintro _ st5 ⟨c, r5, rfl, wc, G5, F5, hr5, sc, dc⟩
      try simp
      exact .k (fin (own := 4) (lev := 3 * p + 3) (by omega) (by omega) ⟨.ite a b c, r5, rfl, ⟨wa, wb, wc⟩, G5, (F3.trans F4).trans F5, by omega, by simp [size]; omega, by simp [deep]; omega⟩)
    simp [h55]
    by_cases h8 : (u : Int) < 8
    · simp [h8]
      refine (ih _ _ _ _ _ _ _ hp (by omega) G2 N2).bnd ?_
      intro a st3 h
      try simp
      exact .k (un .say h)
    simp [h8]
    by_cases h12 : (u : Int) < 12
    · simp [h12]
      refine (let_is (k := k - 1) H ih (by omega) hp G2 N2 _).mono ?_
      intro a st3 h
      exact fin (by omega) (by omega) h
    simp [h12]
    by_cases h15 : (u : Int) < 15
    · simp [h15]
      refine (catch_is (k := k - 1) H ih (by omega) hp G2 N2).mono ?_
      intro a st3 h
      exact fin (by omega) (by omega) h
    simp [h15]
    by_cases h17 : (u : Int) < 17
    · simp [h17]
      refine (ih _ _ _ _ _ _ _ hp (by omega) G2 N2).bnd ?_
      intro a st3 h
      try simp
      exact .k (un .throw h)
    simp [h17]
    by_cases h19 : (u : Int) < 19
    · simp [h19]
      refine (ih _ _ _ _ _ _ _ hp (by omega) G2 N2).bnd ?_
      rintro _ st3 ⟨a, r3, rfl, wa, G3, F3, hr3, sa, da⟩
      have := phi_mono hr3
      try simp
      refine (ih _ _ _ _ _ _ _ (by omega) (by omega) G3 (N2.nx G2 F3)).bnd ?_
      rintro _ st4 ⟨b, r4, rfl, wb, G4, F4, hr4, sb, db⟩
      try simp
      exact .k (fin (own := 4) (lev := 3 * p + 4) (by omega) (by omega) ⟨.bi .last a (.un .say b), r4, rfl, ⟨wa, wb⟩, G4, F3.trans F4, by omega, by simp [size]; omega, by simp [deep]; omega⟩)
    simp [h19]
    by_cases h199 : (u : Int) = 19
    · simp [h199]
      refine (ih _ _ _ _ _ _ _ hp (by omega) G2 N2).bnd ?_
      rintro _ st3 ⟨a, r3, rfl, wa, G3, F3, hr3, sa, da⟩
      have := phi_mono hr3
      try simp
      refine (ih _ _ _ _ _ _ _ (by omega) (by omega) G3 (N2.nx G2 F3)).bnd ?_
      rintro _ st4 ⟨b, r4, rfl, wb, G4, F4, hr4, sb, db⟩
      try simp
      exact .k (fin (own := 3) (lev := 3 * p + 3) (by omega) (by omega) ⟨.bi .els a b, r4, rfl, ⟨wa, wb⟩, G4, F3.trans F4, by omega, by simp [size]; omega, by simp [deep]; omega⟩)
    simp [h199]
    by_cases h20 : (u : Int) = 20
    · simp [h20]
      refine (next2 H (by omega) G2 3 (by omega) (by omega)).bnd ?_
      rintro _ st3 ⟨u3, rfl, hu3, G3, F3⟩
      have N3 := N2.nx G2 F3
      by_cases hz : u3 = 0
      · simp [hz]
        exact .k (fin (own := 1) (lev := 1) (by omega) (by omega) ⟨.fault, r - 1, rfl, True.intro, G3, F3, by omega, by simp [size], by simp [deep]⟩)
      · simp [hz]
        exact expr_leaf H (k := k) (by omega) G3 N3 (by omega) (F02.trans F3) hQ
    simp [h20]
    refine (use_is (k := k - 1) H ih (by omega) hp G2 N2).mono ?_
    intro a st3 h
    exact fin (by omega) (by omega) h
end
end PL


set_option linter.all false
set_option maxRecDepth 100000
set_option autoImplicit false
namespace PL
open MP
open PySem (Str)
structure HasG4 (P : Prog) : Prop extends HasG2 P where
  size : P.fn ("_law_size", none) = some c__law_size
  deep : P.fn ("_law_deep", none) = some c__law_deep
section
variable {P : Prog} {call : Call} {k : Nat} {st : Store} {d n m : Nat} {g : List Nm} {r : Int}
@[simp] theorem LIM_eq : LIM = 16777216 := (rfl)
def lcN (k : Walk) (turn : W → Store → R (Option W)) (r acc : List W) (o : Option W) (st : Store) : R (List W) := match o with
  | some y => if acc.length < LIM then loopC k turn r (acc ++ [y]) st else .bad
  | none => loopC k turn r acc st
@[simp] theorem lcN_n {k : Walk} {turn : W → Store → R (Option W)} {r acc : List W} : lcN k turn r acc none st = loopC k turn r acc st := (rfl)
@[simp] theorem lcN_s {k : Walk} {turn : W → Store → R (Option W)} {r acc : List W} {y : W} : lcN k turn r acc (some y) st = if acc.length < LIM then loopC k turn r (acc ++ [y]) st else .bad := (rfl)
@[simp] theorem loopC_n {k : Walk} {turn : W → Store → R (Option W)} {acc : List W} (h : k.holds st = true) : loopC k turn [] acc st = .ok acc st := by rw [loopC, if_pos h]
@[simp] theorem loopC_c {k : Walk} {turn : W → Store → R (Option W)} {w : W} {r acc : List W} (h : k.holds st = true) : loopC k turn (w :: r) acc st = (turn w st).bind (lcN k turn r acc) := by
  rw [loopC, if_pos h]
  congr
@[simp] theorem holds_app0 {l ws : List W} {q : List SO} : (Walk.mk l [(st.length, ws)]).holds (st ++ .lst ws :: q) = true := holds_one get_app0
@[simp] theorem walk_app0 {ws : List W} {q : List SO} : walkOf (.ref st.length) (st ++ .lst ws :: q) = some ⟨ws, [(st.length, ws)]⟩ := walk_ref get_app0
@[simp] theorem append_app0 {vs : List W} {w : W} {l : List SO} : bmtR .append (.ref st.length) (st ++ .lst vs :: l) [w] (st ++ .lst vs :: l) = if vs.length < LIM then .ok .non (st ++ .lst (vs ++ [w]) :: l) else .bad := by
  simp [bmtR, kindW, bmtW]
@[simp] theorem append_app1 {a : SO} {vs : List W} {w : W} {l : List SO} : bmtR .append (.ref (st.length + 1)) (st ++ a :: .lst vs :: l) [w] (st ++ a :: .lst vs :: l) = if vs.length < LIM then .ok .non (st ++ a :: .lst (vs ++ [w]) :: l) else .bad := by
  simp [bmtR, kindW, bmtW]
@[simp] theorem ix_app0 {ws : List W} {i : Int} {l : List SO} : ixW (.ref st.length) (.int i) (st ++ .lst ws :: l) = oR (at? ws i) (st ++ .lst ws :: l) := ix_lst get_app0
@[simp] theorem ix_app1 {a : SO} {ws : List W} {i : Int} {l : List SO} : ixW (.ref (st.length + 1)) (.int i) (st ++ a :: .lst ws :: l) = oR (at? ws i) (st ++ a :: .lst ws :: l) := ix_lst get_app1
@[simp] theorem ix_app2 {a b : SO} {ws : List W} {i : Int} {l : List SO} : ixW (.ref (st.length + 2)) (.int i) (st ++ a :: b :: .lst ws :: l) = oR (at? ws i) (st ++ a :: b :: .lst ws :: l) := ix_lst get_app2
@[simp] theorem len_app0 {ws : List W} {l : List SO} : bltW .len [.ref st.length] (st ++ .lst ws :: l) = .ok (.int ws.length) (st ++ .lst ws :: l) := len_ref get_app0
@[simp] theorem lcT_eq {elt : Ex} {own : List Nat} {tg : Tg} {cond : Op} {ρ : Env} {w : W} : lcT P call elt own tg cond ρ w st = (evG P call tg w (wipe ρ own) st).bind fun ρ' st => (evC P call cond ρ' st).bind fun b st => cnd b (fun _ => (evE P call elt ρ' st).bind fun y st => .ok (some y) st) (fun _ => .ok none st) := (rfl)
@[simp] theorem wipe_n {ρ : Env} : wipe ρ [] = ρ := (rfl)
@[simp] theorem wipe_c {ρ : Env} {i : Nat} {r : List Nat} : wipe ρ (i :: r) = (wipe ρ r).set i none := (rfl)
theorem sum_ref {p : Nat} {l : List Int} (h : st[p]? = some (.lst (l.map .int))) : bltW .sum [.ref p] st = .ok (.int l.sum) st := by
  have : ∀ l : List Int, allInts (l.map .int) = some l := by
    intro l
    induction l with
    | nil => rfl
    | cons a r ih => simp [allInts, ih]
  simp [bltW, seqOf, h, this]
theorem max_ref {p : Nat} {i : Int} {l : List Int} (h : st[p]? = some (.lst ((i :: l).map .int))) : bltW .max [.ref p] st = .ok (.int (maxL (i :: l))) st := by
  have : ∀ l : List Int, allInts (l.map .int) = some l := by
    intro l
    induction l with
    | nil => rfl
    | cons a r ih => simp [allInts, ih]
  simp only [bltW, seqOf, h, Option.bind, this]
@[simp] theorem isi_enc {t : Pt} : isiW (enc t) .tuple st = some true := by cases t <;> rfl
@[simp] theorem isi_enc_str {t : Pt} : isiW (enc t) .str st = some false := by cases t <;> rfl
@[simp] theorem isi_enc_int {t : Pt} : isiW (enc t) .int st = some false := by cases t <;> rfl
@[simp] theorem isi_enc_bool {t : Pt} : isiW (enc t) .bool st = some false := by cases t <;> rfl
@[simp] theorem isi_enc_list {t : Pt} : isiW (enc t) .list st = some false := by cases t <;> rfl
theorem bind_cnd {α β : Type} {b : Bool} {x y : Unit → R α} {f : α → Store → R β} : (cnd b x y).bind f = cnd b (fun _ => (x ()).bind f) (fun _ => (y ()).bind f) := by cases b <;> rfl
variable (H : HasG4 P)
include H
theorem size_is (t : Pt) : ∀ (k : Nat) (st : Store), deep t ≤ k → Is (callF P k ("_law_size", none) [enc t] st) fun w st' => w = .int (size t : Int) ∧ Fr [] st st' := by
  induction t with
  | num i =>
    intro k st hk
    refine call_is H.size (by have := hk; simp [deep] at this; omega) rfl fun Q hQ => ?_
    simp [c__law_size, enc, sum_ref (l := [])]
    exact .k (hQ _ _ ⟨by simp [size], Fr.app⟩)
  | name x =>
    intro k st hk
    refine call_is H.size (by have := hk; simp [deep] at this; omega) rfl fun Q hQ => ?_
    simp [c__law_size, enc, sum_ref (l := [])]
    exact .k (hQ _ _ ⟨by simp [size], Fr.app⟩)
  | fault =>
    intro k st hk
    refine call_is H.size (by have := hk; simp [deep] at this; omega) rfl fun Q hQ => ?_
    simp [c__law_size, enc, sum_ref (l := [])]
    exact .k (hQ _ _ ⟨by simp [size], Fr.app⟩)
  | un u a ia =>
    intro k st hk
    simp [deep] at hk
    refine call_is H.size (by omega) rfl fun Q hQ => ?_
    simp [c__law_size, enc]
    refine (ia _ _ (by omega)).bnd ?_
    rintro _ st1 ⟨rfl, F1⟩
    simp [sum_ref (l := [(size a : Int)])]
    exact .k (hQ _ _ ⟨by simp [size]; omega, F1.trans Fr.app⟩)
  | bi o a b ia ib =>
    intro k st hk
    simp [deep] at hk
    refine call_is H.size (by omega) rfl fun Q hQ => ?_
    simp [c__law_size, enc]
    refine (ia _ _ (by omega)).bnd ?_
    rintro _ st1 ⟨rfl, F1⟩
    try simp
    refine (ib _ _ (by omega)).bnd ?_
    rintro _ st2 ⟨rfl, F2⟩
    simp [sum_ref (l := [(size a : Int), (size b : Int)])]
    exact .k (hQ _ _ ⟨by simp [size]; omega, (F1.trans F2).trans Fr.app⟩)
  | letp x a b ia ib =>
    intro k st hk
    simp [deep] at hk
    refine call_is H.size (by omega) rfl fun Q hQ => ?_
    simp [c__law_size, enc]
    refine (ia _ _ (by omega)).bnd ?_
    rintro _ st1 ⟨rfl, F1⟩
    try simp
    refine (ib _ _ (by omega)).bnd ?_
    rintro _ st2 ⟨rfl, F2⟩
    simp [sum_ref (l := [(size a : Int), (size b : Int)])]
    exact .k (hQ _ _ ⟨by simp [size]; omega, (F1.trans F2).trans Fr.app⟩)
  | cat a x y b ia ib =>
    intro k st hk
    simp [deep] at hk
    refine call_is H.size (by omega) rfl fun Q hQ => ?_
    simp [c__law_size, enc]
    refine (ia _ _ (by omega)).bnd ?_
    rintro _ st1 ⟨rfl, F1⟩
    try simp
    refine (ib _ _ (by omega)).bnd ?_
    rintro _ st2 ⟨rfl, F2⟩
    simp [sum_ref (l := [(size a : Int), (size b : Int)])]
    exact .k (hQ _ _ ⟨by simp [size]; omega, (F1.trans F2).trans Fr.app⟩)
  | ite a b c ia ib ic =>
    intro k st hk
    simp [deep] at hk
    refine call_is H.size (by omega) rfl fun Q hQ => ?_
    simp [c__law_size, enc]
    refine (ia _ _ (by omega)).bnd ?_
    rintro _ st1 ⟨rfl, F1⟩
    try simp
    refine (ib _ _ (by omega)).bnd ?_
    rintro _ st2 ⟨rfl, F2⟩
    try simp
    refine (ic _ _ (by omega)).bnd ?_
    rintro _ st3 ⟨rfl, F3⟩
    simp [sum_ref (l := [(size a : Int), (size b : Int), (size c : Int)])]
    exact .k (hQ _ _ ⟨by simp [size]; omega, ((F1.trans F2).trans F3).trans Fr.app⟩)
  | fnp x a ia =>
    intro k st hk
    simp [deep] at hk
    refine call_is H.size (by omega) rfl fun Q hQ => ?_
    simp [c__law_size, enc]
    refine (ia _ _ (by omega)).bnd ?_
    rintro _ st1 ⟨rfl, F1⟩
    simp [sum_ref (l := [(size a : Int)])]
    exact .k (hQ _ _ ⟨by simp [size]; omega, F1.trans Fr.app⟩)
theorem deep_is (t : Pt) : ∀ (k : Nat) (st : Store), deep t ≤ k → Is (callF P k ("_law_deep", none) [enc t] st) fun w st' => w = .int (deep t : Int) ∧ Fr [] st st' := by
  induction t with
  | num i =>
    intro k st hk
    refine call_is H.deep (by have := hk; simp [deep] at this; omega) rfl fun Q hQ => ?_
    simp [c__law_deep, enc]
    rw [add_lst get_app0 get_app1 (by simp)]
    simp [max_ref (i := 0) (l := [])]
    exact .k (hQ _ _ ⟨by simp [deep, maxL], Fr.app⟩)
  | name x =>
    intro k st hk
    refine call_is H.deep (by have := hk; simp [deep] at this; omega) rfl fun Q hQ => ?_
    simp [c__law_deep, enc]
    rw [add_lst get_app0 get_app1 (by simp)]
    simp [max_ref (i := 0) (l := [])]
    exact .k (hQ _ _ ⟨by simp [deep, maxL], Fr.app⟩)
  | fault =>
    intro k st hk
    refine call_is H.deep (by have := hk; simp [deep] at this; omega) rfl fun Q hQ => ?_
    simp [c__law_deep, enc]
    rw [add_lst get_app0 get_app1 (by simp)]
    simp [max_ref (i := 0) (l := [])]
    exact .k (hQ _ _ ⟨by simp [deep, maxL], Fr.app⟩)
  | un u a ia =>
    intro k st hk
    simp [deep] at hk
    refine call_is H.deep (by omega) rfl fun Q hQ => ?_
    simp [c__law_deep, enc]
    refine (ia _ _ (by omega)).bnd ?_
    rintro _ st1 ⟨rfl, F1⟩
    have h0 := Fr.get (F1) (i := st.length) (by simp) get_app0
    try simp
    rw [add_lst (get_app h0 _) get_app0 (by simp)]
    simp [max_ref (i := 0) (l := [(deep a : Int)])]
    exact .k (hQ _ _ ⟨by simp [deep, maxL]; omega, Fr.app.trans (F1.trans Fr.app)⟩)
  | bi o a b ia ib =>
    intro k st hk
    simp [deep] at hk
    refine call_is H.deep (by omega) rfl fun Q hQ => ?_
    simp [c__law_deep, enc]
    refine (ia _ _ (by omega)).bnd ?_
    rintro _ st1 ⟨rfl, F1⟩
    try simp
    refine (ib _ _ (by omega)).bnd ?_
    rintro _ st2 ⟨rfl, F2⟩
    have h0 := Fr.get (F1.trans F2) (i := st.length) (by simp) get_app0
    try simp
    rw [add_lst (get_app h0 _) get_app0 (by simp)]
    simp [max_ref (i := 0) (l := [(deep a : Int), (deep b : Int)])]
    exact .k (hQ _ _ ⟨by simp [deep, maxL]; omega, Fr.app.trans ((F1.trans F2).trans Fr.app)⟩)
  | letp x a b ia ib =>
    intro k st hk
    simp [deep] at hk
    refine call_is H.deep (by omega) rfl fun Q hQ => ?_
    simp [c__law_deep, enc]
    refine (ia _ _ (by omega)).bnd ?_
    rintro _ st1 ⟨rfl, F1⟩
    try simp
    refine (ib _ _ (by omega)).bnd ?_
    rintro _ st2 ⟨rfl, F2⟩
    have h0 := Fr.get (F1.trans F2) (i := st.length) (by simp) get_app0
    try simp
    rw [add_lst (get_app h0 _) get_app0 (by simp)]
    simp [max_ref (i := 0) (l := [(deep a : Int), (deep b : Int)])]
    exact .k (hQ _ _ ⟨by simp [deep, maxL]; omega, Fr.app.trans ((F1.trans F2).trans Fr.app)⟩)
  | cat a x y b ia ib =>
    intro k st hk
    simp [deep] at hk
    refine call_is H.deep (by omega) rfl fun Q hQ => ?_
    simp [c__law_deep, enc]
    refine (ia _ _ (by omega)).bnd ?_
    rintro _ st1 ⟨rfl, F1⟩
    try simp
    refine (ib _ _ (by omega)).bnd ?_
    rintro _ st2 ⟨rfl, F2⟩
    have h0 := Fr.get (F1.trans F2) (i := st.length) (by simp) get_app0
    try simp
    rw [add_lst (get_app h0 _) get_app0 (by simp)]
    simp [max_ref (i := 0) (l := [(deep a : Int), (deep b : Int)])]
    exact .k (hQ _ _ ⟨by simp [deep, maxL]; omega, Fr.app.trans ((F1.trans F2).trans Fr.app)⟩)
  | ite a b c ia ib ic =>
    intro k st hk
    simp [deep] at hk
    refine call_is H.deep (by omega) rfl fun Q hQ => ?_
    simp [c__law_deep, enc]
    refine (ia _ _ (by omega)).bnd ?_
    rintro _ st1 ⟨rfl, F1⟩
    try simp
    refine (ib _ _ (by omega)).bnd ?_
    rintro _ st2 ⟨rfl, F2⟩
    try simp
    refine (ic _ _ (by omega)).bnd ?_
    rintro _ st3 ⟨rfl, F3⟩
    have h0 := Fr.get ((F1.trans F2).trans F3) (i := st.length) (by simp) get_app0
    try simp
    rw [add_lst (get_app h0 _) get_app0 (by simp)]
    simp [max_ref (i := 0) (l := [(deep a : Int), (deep b : Int), (deep c : Int)])]
    exact .k (hQ _ _ ⟨by simp [deep, maxL]; omega, Fr.app.trans (((F1.trans F2).trans F3).trans Fr.app)⟩)
  | fnp x a ia =>
    intro k st hk
    simp [deep] at hk
    refine call_is H.deep (by omega) rfl fun Q hQ => ?_
    simp [c__law_deep, enc]
    refine (ia _ _ (by omega)).bnd ?_
    rintro _ st1 ⟨rfl, F1⟩
    have h0 := Fr.get (F1) (i := st.length) (by simp) get_app0
    try simp
    rw [add_lst (get_app h0 _) get_app0 (by simp)]
    simp [max_ref (i := 0) (l := [(deep a : Int)])]
    exact .k (hQ _ _ ⟨by simp [deep, maxL]; omega, Fr.app.trans (F1.trans Fr.app)⟩)
end
end PL


set_option linter.all false
set_option maxRecDepth 100000
set_option autoImplicit false
namespace PL
open MP
open PySem (Str)
structure HasG5 (P : Prog) : Prop extends HasG4 P where
  program : P.fn ("_law_program", none) = some c__law_program
  turns : P.turns = 100000
/-- a drawn program -/
def Drawn (d : Nat) (sz dp : Nat) (st : Store) (w : W) (st' : Store) : Prop := ∃ t, w = enc t ∧ wf [] t ∧ size t ≤ sz ∧ deep t ≤ dp ∧ Dice st' d ∧ Fr [d] st st'
section
variable {P : Prog} {k : Nat} {st : Store} {d n m : Nat} {g : List Nm} {r : Int}
theorem nms_nil : Nms (st ++ [.dic (encN [])]) st.length [] := ⟨[], get_app0, by simp [NDK], by simp⟩
theorem Nms.nil_at {i : Nat} (h : st[i]? = some (.dic (encN []))) : Nms st i [] := ⟨[], h, by simp [NDK], by simp⟩
variable (H : HasG5 P)
include H
/-- an expression drawn from a new room -/
theorem expr_new (hk : 2 * phi r + 5 ≤ k) (D : Dice st d) (N : Nms st n g) :
    Is (callF P k ("_law_expr", none) [.ref d, .ref n, .ref st.length] (st ++ [.lst [.int r]])) fun w st' => ∃ t, w = enc t ∧ wf g t ∧ Dice st' d ∧ Fr [d] st st' ∧ size t ≤ 1 + 15 * phi r ∧ deep t ≤ 3 * phi r + 2 := by
  have G : GS (st ++ [.lst [.int r]]) d st.length r := ⟨D.fr (M := []) Fr.app (by simp), get_app0⟩
  refine (expr_at H.toHasG2 (phi r) k _ d n st.length g r (Nat.le_refl _) hk G (N.app _)).mono ?_
  rintro w st' ⟨t, r', e, wt, G', F', h1, h2, h3⟩
  refine ⟨t, e, wt, G'.d, Fr.fresh (j := st.length) ((Fr.app.trans F').wide (by simp)) (by simp), by omega, h3⟩
theorem program_is (hk : 172 ≤ k) (D : Dice st d) : Is (callF P k ("_law_program", none) [.ref d] st) (Drawn d 200 41 st) := by
  refine call_is H.program (by omega) rfl fun Q hQ => ?_
  simp [c__law_program]
  have D0 : ∀ l, Dice (st ++ l) d := fun l => D.fr (M := []) Fr.app (by simp)
  refine (next_is H.toHasG1 (by omega) (D0 _) 3 (by omega) (by omega)).bnd ?_
  rintro _ st1 ⟨u, rfl, hu, D1, F1, _⟩
  have hl := D.lt
  have hn : st.length ∉ [d] := by simp; omega
  have hn1 : st.length + 1 ∉ [d] := by simp; omega
  have h0 := F1.get hn get_app0
  have h1 := F1.get hn1 get_app1
  obtain ⟨r, hr, e⟩ : ∃ r, phi r ≤ 56 ∧ ixW (.ref (st.length + 1)) (.int (u : Int)) st1 = .ok (.int r) st1 := by
    rcases (by omega : u = 0 ∨ u = 1 ∨ u = 2) with h | h | h <;> subst h <;> simp [ix_lst h1] <;> decide
  simp [e]
  refine (expr_new H (by omega) D1 (Nms.nil_at h0)).bnd ?_
  rintro _ st2 ⟨t, rfl, wt, D2, F2, sz, dp⟩
  have F02 : Fr [d] st st2 := (Fr.app.trans F1).trans F2
  try simp
  rw [H.turns]
  refine loopW_is (fun n ρ st' => n ≤ 1 ∧ ∃ t, ρ = [some (.ref d), some (enc t)] ∧ wf [] t ∧ Dice st' d ∧ Fr [d] st st' ∧ deep t ≤ 170 ∧ (n = 0 → size t ≤ 200 ∧ deep t ≤ 41)) ?_ 100000 1 (by omega) _ _ ⟨by omega, t, rfl, wt, D2, F02, by omega, by omega⟩
  rintro n _ st3 ⟨hn, t, rfl, wt, D3, F3, dp, h01⟩ Qc hc
  simp
  refine (size_is H.toHasG4 t _ _ (by omega)).bnd ?_
  rintro _ st4 ⟨rfl, F4⟩
  simp
  have done : ∀ st5, Fr [] st3 st5 → size t ≤ 200 → deep t ≤ 41 → Q (enc t) st5 := fun st5 F hs hd => hQ _ _ ⟨t, rfl, wt, hs, hd, D3.fr F (by simp), F3.trans (F.wide (by simp))⟩
  have again : n ≠ 0 → ∀ st5, Fr [] st3 st5 → ∀ C : Env → Store → RS, (∀ m ρ' st', m < n → (m ≤ 1 ∧ ∃ t, ρ' = [some (.ref d), some (enc t)] ∧ wf [] t ∧ Dice st' d ∧ Fr [d] st st' ∧ deep t ≤ 170 ∧ (m = 0 → size t ≤ 200 ∧ deep t ≤ 41)) → Is (fin (C ρ' st')) Q) → Is ((callF P (k - 1) ("_law_expr", none) [.ref d, .ref st5.length, .ref (st5.length + 1)] (st5 ++ [.dic (encN []), .lst [.int 10]])).bind fun a st => fin (C [some (.ref d), some a] st)) Q := by
    intro hn0 st5 F C hC
    have D5 := D3.fr F (by simp)
    have := expr_new (r := 10) (k := k - 1) (st := st5 ++ [.dic (encN [])]) (n := st5.length) (g := []) H (by unfold phi; omega) (D5.fr (M := []) Fr.app (by simp)) nms_nil
    simp at this
    refine this.bnd ?_
    rintro _ st6 ⟨t6, rfl, wt6, D6, F6, sz6, dp6⟩
    have : phi 10 = 6 := rfl
    exact hC 0 _ _ (by omega) ⟨by omega, t6, rfl, wt6, D6, (F3.trans (F.wide (by simp))).trans (Fr.app.trans F6), by omega, fun _ => by omega⟩
  by_cases hs : 200 < size t
  · simp [show (200 : Int) < (size t : Int) by omega]
    refine .k (hc _ _ (by simp) fun _ C hC => ?_)
    simp
    exact again (by omega) st4 F4 C hC
  · simp [show ¬ (200 : Int) < (size t : Int) by omega]
    refine (deep_is H.toHasG4 t _ _ (by omega)).bnd ?_
    rintro _ st5 ⟨rfl, F5⟩
    simp
    refine .k (hc _ _ (fun h => ?_) fun h C hC => ?_)
    · simp at h
      simp
      exact .k (done st5 (F4.trans F5) (by omega) (by omega))
    · simp at h
      simp
      exact again (by omega) st5 (F4.trans F5) C hC
end
end PL


set_option linter.all false
set_option maxRecDepth 100000
set_option autoImplicit false
namespace PL
open MP
open PySem (Str)
structure HasG6 (P : Prog) : Prop extends HasG5 P where
  loop : P.fn ("_law_loop", none) = some c__law_loop
  again : P.fn ("_law_again", none) = some c__law_again
  long : P.fn ("_law_long", none) = some c__law_long
  any : P.fn ("_law_any", none) = some c__law_any
def againT : Pt := .bi .call (.un .look (.name 1)) (.bi .take (.name 0) (.num 1))
def loopT (s b : Pt) (i : Int) : Pt := .letp 1 (.un .box (.num 0)) (.letp 5 (.fnp 0 (.ite (.bi .less (.name 0) (.num 1)) b s)) (.letp 2 (.bi .put (.name 1) (.name 5)) (.bi .call (.name 5) (.num i))))
section
variable {P : Prog} {k : Nat} {st : Store} {d n m : Nat} {g : List Nm} {r : Int}
theorem isin_flat {x : W} {ws : List W} (hx : flatW x = true) (hw : ∀ w ∈ ws, flatW w = true) : ∃ b, cop .isin x (.tup ws) st = .ok (.bl b) st := by
  have : ws.all flatW = true := List.all_eq_true.mpr hw
  exact ⟨_, by simp [cop, isin, inF, this, hx, orB]; rfl⟩
variable (H : HasG6 P)
include H
theorem again_is (hk : 0 < k) (w : W) : callF P k ("_law_again", none) [w] st = .ok (enc againT) st := by
  obtain ⟨j, rfl⟩ : ∃ j, k = j + 1 := ⟨k - 1, by omega⟩
  rw [call_fin H.again rfl]
  simp [c__law_again]
  rfl
theorem loop_is (hk : 0 < k) (w : W) (s b : Pt) (i : Int) : callF P k ("_law_loop", none) [w, enc s, enc b, .int i] st = .ok (enc (loopT s b i)) st := by
  obtain ⟨j, rfl⟩ : ∃ j, k = j + 1 := ⟨k - 1, by omega⟩
  rw [call_fin H.loop rfl]
  simp [c__law_loop]
  rfl
theorem long_is (hk : 3 < k) (D : Dice st d) : Is (callF P k ("_law_long", none) [.ref d] st) (Drawn d 100 30 st) := by
  refine call_is H.long (by omega) rfl fun Q hQ => ?_
  have hl := D.lt
  have D0 : ∀ l, Dice (st ++ l) d := fun l => D.fr (M := []) Fr.app (by simp)
  have hn : st.length ∉ [d] := by simp; omega
  have hn1 : st.length + 1 ∉ [d] := by simp; omega
  have hn2 : st.length + 2 ∉ [d] := by simp; omega
  simp [c__law_long, again_is H (k := k - 1) (by omega)]
  refine (next_is H.toHasG1 (by omega) (D0 _) 8 (by omega) (by omega)).bnd ?_
  rintro _ st1 ⟨u, rfl, hu, D1, F1, _⟩
  have h0 := F1.get hn get_app0
  have h1 := F1.get hn1 get_app1
  have h2 := F1.get hn2 get_app2
  replace F1 : Fr [d] st st1 := Fr.app.trans F1
  obtain ⟨i, hi, e⟩ : ∃ i : Int, (0 ≤ i ∧ i ≤ 2000) ∧ ixW (.ref (st.length + 2)) (.int (u : Int)) st1 = .ok (.int i) st1 := by
    rcases (by omega : u = 0 ∨ u = 1 ∨ u = 2 ∨ u = 3 ∨ u = 4 ∨ u = 5 ∨ u = 6 ∨ u = 7) with h | h | h | h | h | h | h | h <;> subst h <;> simp [ix_lst h2]
  simp [e]
  refine (next_is H.toHasG1 (by omega) D1 8 (by omega) (by omega)).bnd ?_
  rintro _ st2 ⟨u2, rfl, hu2, D2, F2, _⟩
  replace h0 := F2.get hn h0
  replace h1 := F2.get hn1 h1
  replace F2 := F1.trans F2
  obtain ⟨b, eb⟩ := isin_flat (st := st2) (x := .int (u2 : Int)) (ws := [.int 4, .int 7]) rfl (by simp [flatW])
  obtain ⟨s, hs, es⟩ : ∃ s : Pt, (wf [0, 1] s ∧ size s ≤ 30 ∧ deep s ≤ 10) ∧ ixW (.ref st.length) (.int (u2 : Int)) st2 = .ok (enc s) st2 := by
    rcases (by omega : u2 = 0 ∨ u2 = 1 ∨ u2 = 2 ∨ u2 = 3 ∨ u2 = 4 ∨ u2 = 5 ∨ u2 = 6 ∨ u2 = 7) with h | h | h | h | h | h | h | h <;> subst h <;> simp [ix_lst h0]
    · exact ⟨.bi .add (.name 0) againT, by simp [wf, againT, numOk, size, deep], rfl⟩
    · exact ⟨againT, by simp [wf, againT, numOk, size, deep], rfl⟩
    · exact ⟨.bi .last againT (.un .say (.name 0)), by simp [wf, againT, numOk, size, deep], rfl⟩
    · exact ⟨.bi .add (.un .say (.name 0)) againT, by simp [wf, againT, numOk, size, deep], rfl⟩
    · exact ⟨.bi .add (.un .throw (.name 0)) againT, by simp [wf, againT, numOk, size, deep], rfl⟩
    · exact ⟨.bi .els againT (.un .say (.name 0)), by simp [wf, againT, numOk, size, deep], rfl⟩
    · exact ⟨.letp 2 againT (.bi .add (.name 2) (.name 2)), by simp [wf, againT, numOk, size, deep], rfl⟩
    · exact ⟨.cat (.bi .add (.un .throw (.name 0)) againT) 3 4 (.bi .go (.name 4) (.name 3)), by simp [wf, againT, numOk, size, deep], rfl⟩
  obtain ⟨j, hj, ej⟩ : ∃ j : Int, (0 ≤ j ∧ j ≤ 2000) ∧ (cnd b (fun _ => R.ok (W.int (if (300 : Int) < i then 300 else i)) st2) (fun _ => R.ok (W.int i) st2)) = .ok (.int j) st2 := by
    cases b
    · exact ⟨i, hi, rfl⟩
    · refine ⟨if (300 : Int) < i then 300 else i, ?_, rfl⟩
      split <;> omega
  simp [eb]
  rw [ej]
  simp [es]
  refine (next_is H.toHasG1 (by omega) D2 4 (by omega) (by omega)).bnd ?_
  rintro _ st3 ⟨u3, rfl, hu3, D3, F3, _⟩
  replace h1 := F3.get hn1 h1
  replace F3 := F2.trans F3
  obtain ⟨c, hc, ec⟩ : ∃ c : Pt, (wf [] c ∧ size c ≤ 2 ∧ deep c ≤ 2) ∧ ixW (.ref (st.length + 1)) (.int (u3 : Int)) st3 = .ok (enc c) st3 := by
    rcases (by omega : u3 = 0 ∨ u3 = 1 ∨ u3 = 2 ∨ u3 = 3) with h | h | h | h <;> subst h <;> simp [ix_lst h1]
    · exact ⟨.num 0, by simp [wf, numOk, size, deep], rfl⟩
    · exact ⟨.un .throw (.num 3), by simp [wf, numOk, size, deep], rfl⟩
    · exact ⟨.fault, by simp [wf, numOk, size, deep], rfl⟩
    · exact ⟨.un .say (.num 9), by simp [wf, numOk, size, deep], rfl⟩
  clear h0 h1 h2 e eb es ej
  simp [ec, loop_is H (k := k - 1) (by omega), rngR, show List.range 3 = [0, 1, 2] from rfl]
  refine (next_is H.toHasG1 (by omega) (D3.fr (M := []) Fr.app (by simp)) 5 (by omega) (by omega)).bnd ?_
  rintro _ st4 ⟨u4, rfl, hu4, D4, F4, _⟩
  have hl3 := D3.lt
  have h4 := F4.get (i := st3.length + 1) (by simp; omega) get_app1
  replace F4 : Fr [d] st st4 := F3.trans (Fr.app.trans F4)
  have wl : wf [] (loopT s c j) := by
    refine ⟨by simp [wf, numOk], ⟨⟨by simp [wf], by simp [wf, numOk]⟩, hc.1.mono (by simp), hs.1.mono (by simp)⟩, ⟨by simp [wf], by simp [wf]⟩, by simp [wf], by unfold wf numOk; omega⟩
  have sl : size (loopT s c j) ≤ 50 := by simp [loopT, size]; omega
  have dl : deep (loopT s c j) ≤ 16 := by simp [loopT, deep]; omega
  simp
  by_cases h : 0 < u4
  · simp [h]
    refine (next_is H.toHasG1 (by omega) D4 6 (by omega) (by omega)).bnd ?_
    rintro _ st5 ⟨u5, rfl, hu5, D5, F5, _⟩
    replace h4 := F5.get (by simp; omega) h4
    replace F5 := F4.trans F5
    obtain ⟨t, ht, et⟩ : ∃ t : Pt, (wf [6, 7] t ∧ size t ≤ 20 ∧ deep t ≤ 10) ∧ ixW (.ref (st3.length + 1)) (.int (u5 : Int)) st5 = .ok (enc t) st5 := by
      rcases (by omega : u5 = 0 ∨ u5 = 1 ∨ u5 = 2 ∨ u5 = 3 ∨ u5 = 4 ∨ u5 = 5) with h | h | h | h | h | h <;> subst h <;> simp [ix_lst h4]
      · exact ⟨.name 6, by simp [wf, numOk, size, deep], rfl⟩
      · exact ⟨.bi .go (.name 7) (.num 1), by simp [wf, numOk, size, deep], rfl⟩
      · exact ⟨.bi .add (.bi .go (.name 7) (.num 1)) (.bi .go (.name 7) (.num 2)), by simp [wf, numOk, size, deep], rfl⟩
      · exact ⟨.bi .add (.bi .go (.name 7) (.num 1)) (.un .drop (.name 7)), by simp [wf, numOk, size, deep], rfl⟩
      · exact ⟨.bi .go (.name 7) (.num 3), by simp [wf, numOk, size, deep], rfl⟩
      · exact ⟨.letp 0 (.bi .go (.name 7) (.num 1)) (.letp 1 (.bi .go (.name 7) (.num 2)) (.bi .add (.name 0) (.name 1))), by simp [wf, numOk, size, deep], rfl⟩
    simp [et]
    exact .k (hQ _ _ ⟨.cat (loopT s c j) 6 7 t, rfl, ⟨by decide, wl, ht.1⟩, by simp [size]; omega, by simp [deep]; omega, D5, F5⟩)
  · simp [h]
    exact .k (hQ _ _ ⟨loopT s c j, rfl, wl, by omega, by omega, D4, F4⟩)
theorem Drawn.mono {a b a' b' : Nat} {w : W} {st' : Store} (h : Drawn d a b st w st') (ha : a ≤ a') (hb : b ≤ b') : Drawn d a' b' st w st' := by
  obtain ⟨t, e, h1, h2, h3, h4⟩ := h
  exact ⟨t, e, h1, by omega, by omega, h4⟩
theorem any_is (hk : 173 ≤ k) (D : Dice st d) : Is (callF P k ("_law_any", none) [.ref d] st) (Drawn d 200 41 st) := by
  refine call_is H.any (by omega) rfl fun Q hQ => ?_
  simp [c__law_any]
  refine (next_is H.toHasG1 (by omega) D 3 (by omega) (by omega)).bnd ?_
  rintro _ st1 ⟨u, rfl, hu, D1, F1, _⟩
  simp
  have F : ∀ {w st'}, Drawn d 200 41 st1 w st' → Q w st' := by
    rintro w st' ⟨t, e, h1, h2, h3, h4, h5⟩
    exact hQ _ _ ⟨t, e, h1, h2, h3, h4, F1.trans h5⟩
  by_cases h : (u : Int) = 2
  · simp [h]
    exact (long_is (k := k - 1) H (by omega) D1).mono fun w st' h => F (h.mono H (by omega) (by omega))
  · simp [h]
    exact (program_is (k := k - 1) H.toHasG5 (by omega) D1).mono fun w st' h => F h
end
end PL


set_option linter.all false
set_option maxRecDepth 100000
set_option autoImplicit false
/-! N1: programs that are good are let go: a part's shape, names, inner parts. -/
namespace PL
open MP
open PySem (Str)
structure HasN1 (P : Prog) : Prop where
  is_number : P.fn ("is_number", none) = some c_is_number
  is_kind : P.fn ("is_kind", none) = some c_is_kind
  has_shape : P.fn ("has_shape", none) = some c_has_shape
  names_in : P.fn ("names_in", none) = some c_names_in
  fault_of : P.fn ("fault_of", none) = some c_fault_of
  inner : P.fn ("inner", none) = some c_inner
  need_program : P.fn ("need_program", none) = some c_need_program
  shapes : lookS P.glos "SHAPES" = some (.gd shp)
  names : lookS P.glos "NAMES" = some (.tup [sW 0, sW 1, sW 2, sW 3, sW 4, sW 5, sW 6, sW 7])
  most_number : lookS P.glos "MOST_NUMBER" = some (.int 1000000)
  most_parts : lookS P.glos "MOST_PARTS" = some (.int 200)
  most_deep : lookS P.glos "MOST_DEEP" = some (.int 40)
  turns : P.turns = 100000
section
variable {st : Store}
@[simp] theorem range_0 : List.range 0 = [] := (rfl)
@[simp] theorem range_1 : List.range 1 = [0] := (rfl)
@[simp] theorem range_2 : List.range 2 = [0, 1] := (rfl)
@[simp] theorem range_3 : List.range 3 = [0, 1, 2] := (rfl)
@[simp] theorem range_4 : List.range 4 = [0, 1, 2, 3] := (rfl)
@[simp] theorem rngR0 : rngR (.int 0) st = .ok ⟨[], []⟩ st := (rfl)
@[simp] theorem rngR1 : rngR (.int 1) st = .ok ⟨[.int 0], []⟩ st := (rfl)
@[simp] theorem rngR2 : rngR (.int 2) st = .ok ⟨[.int 0, .int 1], []⟩ st := (rfl)
@[simp] theorem rngR3 : rngR (.int 3) st = .ok ⟨[.int 0, .int 1, .int 2], []⟩ st := (rfl)
@[simp] theorem rngR4 : rngR (.int 4) st = .ok ⟨[.int 0, .int 1, .int 2, .int 3], []⟩ st := (rfl)
@[simp] theorem U_lt (u : U) : u.ix < 68 := by cases u <;> decide
@[simp] theorem B_lt (o : B) : o.ix < 68 := by cases o <;> decide
theorem U_ne (u : U) {n : Nat} (h : ([18, 19, 20, 23, 25] : List Nat).contains n = false) : (u.ix = n) = False := by
  apply eq_false
  rintro rfl
  cases u <;> cases h
theorem B_ne (o : B) {n : Nat} (h : ([11, 12, 13, 17, 21, 24, 26, 27] : List Nat).contains n = false) : (o.ix = n) = False := by
  apply eq_false
  rintro rfl
  cases o <;> cases h
@[simp] theorem U8 (u : U) : (u.ix = 8) = False := U_ne u rfl
@[simp] theorem U9 (u : U) : (u.ix = 9) = False := U_ne u rfl
@[simp] theorem U10 (u : U) : (u.ix = 10) = False := U_ne u rfl
@[simp] theorem U14 (u : U) : (u.ix = 14) = False := U_ne u rfl
@[simp] theorem U15 (u : U) : (u.ix = 15) = False := U_ne u rfl
@[simp] theorem U16 (u : U) : (u.ix = 16) = False := U_ne u rfl
@[simp] theorem U22 (u : U) : (u.ix = 22) = False := U_ne u rfl
@[simp] theorem U24 (u : U) : (u.ix = 24) = False := U_ne u rfl
@[simp] theorem U17 (u : U) : (u.ix = 17) = False := U_ne u rfl
@[simp] theorem B8 (u : B) : (u.ix = 8) = False := B_ne u rfl
@[simp] theorem B9 (u : B) : (u.ix = 9) = False := B_ne u rfl
@[simp] theorem B10 (u : B) : (u.ix = 10) = False := B_ne u rfl
@[simp] theorem B14 (u : B) : (u.ix = 14) = False := B_ne u rfl
@[simp] theorem B15 (u : B) : (u.ix = 15) = False := B_ne u rfl
@[simp] theorem B16 (u : B) : (u.ix = 16) = False := B_ne u rfl
@[simp] theorem B22 (u : B) : (u.ix = 22) = False := B_ne u rfl
@[simp] theorem B23 (u : B) : (u.ix = 23) = False := B_ne u rfl
@[simp] theorem B25 (u : B) : (u.ix = 25) = False := B_ne u rfl
/-- a word's kinds -/
def shG (i : Nat) : Option Nat := (shn.find? fun p => decide (p.1 = i)).map (·.2)
theorem shp_all : shn.all (fun p => decide (p.1 < 68) && decide (p.2 < 68)) = true := by decide +kernel
theorem shp_find {i : Nat} (hi : i < 68) : (shp.find? fun p => decide (p.1 = sw i)) = (shn.find? fun p => decide (p.1 = i)).map fun p => (sw p.1, sw p.2) := by
  have h := shp_all
  unfold shp
  generalize shn = l at *
  induction l with
  | nil => rfl
  | cons p r ih =>
    simp at h
    have e : (sw p.1 = sw i) ↔ p.1 = i := sw_inj h.1.1 hi
    by_cases hp : p.1 = i
    · simp [List.find?, hp]
    · have : ¬ sw p.1 = sw i := fun h => hp (e.mp h)
      simp [List.find?, hp, this]
      have := ih (by simpa using h.2)
      simpa using this
theorem shp_ix {i j : Nat} (hi : i < 68) (h : shG i = some j) : ixW (.gd shp) (sW i) st = .ok (sW j) st := by
  unfold shG at h
  unfold ixW
  simp only [sW, shp_find hi]
  cases hf : shn.find? fun p => decide (p.1 = i) with
  | none => rw [hf] at h; cases h
  | some p =>
    rw [hf] at h
    simp at h
    subst h
    rfl
theorem shp_in {i j : Nat} (hi : i < 68) (h : shG i = some j) : cop .notin (sW i) (.gd shp) st = .ok (.bl false) st := by
  have : (shp.any fun p => decide (p.1 = sw i)) = true := by
    unfold shG at h
    cases hf : shn.find? fun p => decide (p.1 = i) with
    | none => rw [hf] at h; cases h
    | some p =>
      have := shp_find hi
      rw [hf] at this
      rw [List.any_eq_true]
      exact ⟨_, List.mem_of_find?_eq_some this, by have h1 := List.find?_some this; simpa using h1⟩
  simp [cop, isin, this]
theorem shU (u : U) : shG u.ix = some 4 := by cases u <;> decide
theorem shB (u : B) : shG u.ix = some 31 := by cases u <;> decide
@[simp] theorem shU_ix (u : U) : ixW (.gd shp) (sW u.ix) st = .ok (sW 4) st := shp_ix (U_lt u) (shU u)
@[simp] theorem shU_in (u : U) : cop .notin (sW u.ix) (.gd shp) st = .ok (.bl false) st := shp_in (U_lt u) (shU u)
@[simp] theorem shB_ix (u : B) : ixW (.gd shp) (sW u.ix) st = .ok (sW 31) st := shp_ix (B_lt u) (shB u)
@[simp] theorem shB_in (u : B) : cop .notin (sW u.ix) (.gd shp) st = .ok (.bl false) st := shp_in (B_lt u) (shB u)
@[simp] theorem sh8 : ixW (.gd shp) (sW 8) st = .ok (sW 28) st := shp_ix (by decide) (by decide)
@[simp] theorem sh9 : ixW (.gd shp) (sW 9) st = .ok (sW 29) st := shp_ix (by decide) (by decide)
@[simp] theorem sh10 : ixW (.gd shp) (sW 10) st = .ok (sW 36) st := shp_ix (by decide) (by decide)
@[simp] theorem sh14 : ixW (.gd shp) (sW 14) st = .ok (sW 32) st := shp_ix (by decide) (by decide)
@[simp] theorem sh15 : ixW (.gd shp) (sW 15) st = .ok (sW 33) st := shp_ix (by decide) (by decide)
@[simp] theorem sh16 : ixW (.gd shp) (sW 16) st = .ok (sW 34) st := shp_ix (by decide) (by decide)
@[simp] theorem sh22 : ixW (.gd shp) (sW 22) st = .ok (sW 35) st := shp_ix (by decide) (by decide)
@[simp] theorem shi8 : cop .notin (sW 8) (.gd shp) st = .ok (.bl false) st := shp_in (j := 28) (by decide) (by decide)
@[simp] theorem shi9 : cop .notin (sW 9) (.gd shp) st = .ok (.bl false) st := shp_in (j := 29) (by decide) (by decide)
@[simp] theorem shi10 : cop .notin (sW 10) (.gd shp) st = .ok (.bl false) st := shp_in (j := 36) (by decide) (by decide)
@[simp] theorem shi14 : cop .notin (sW 14) (.gd shp) st = .ok (.bl false) st := shp_in (j := 32) (by decide) (by decide)
@[simp] theorem shi15 : cop .notin (sW 15) (.gd shp) st = .ok (.bl false) st := shp_in (j := 33) (by decide) (by decide)
@[simp] theorem shi16 : cop .notin (sW 16) (.gd shp) st = .ok (.bl false) st := shp_in (j := 34) (by decide) (by decide)
@[simp] theorem shi22 : cop .notin (sW 22) (.gd shp) st = .ok (.bl false) st := shp_in (j := 35) (by decide) (by decide)
theorem kd_len {i n : Nat} (h : decide ((sw i).length = n) = true) (hn : n ≤ 100) : bltW .len [sW i] st = .ok (.int (n : Int)) st := by
  have h := of_decide_eq_true h
  rw [len_str (by rw [h]; simp; omega), h]
@[simp] theorem kl28 : bltW .len [sW 28] st = .ok (.int 1) st := kd_len (n := 1) (by decide +kernel) (by decide)
@[simp] theorem kl29 : bltW .len [sW 29] st = .ok (.int 1) st := kd_len (n := 1) (by decide +kernel) (by decide)
@[simp] theorem kl36 : bltW .len [sW 36] st = .ok (.int 0) st := kd_len (n := 0) (by decide +kernel) (by decide)
@[simp] theorem kl4 : bltW .len [sW 4] st = .ok (.int 1) st := kd_len (n := 1) (by decide +kernel) (by decide)
@[simp] theorem kl31 : bltW .len [sW 31] st = .ok (.int 2) st := kd_len (n := 2) (by decide +kernel) (by decide)
@[simp] theorem kl32 : bltW .len [sW 32] st = .ok (.int 3) st := kd_len (n := 3) (by decide +kernel) (by decide)
@[simp] theorem kl33 : bltW .len [sW 33] st = .ok (.int 3) st := kd_len (n := 3) (by decide +kernel) (by decide)
@[simp] theorem kl34 : bltW .len [sW 34] st = .ok (.int 2) st := kd_len (n := 2) (by decide +kernel) (by decide)
@[simp] theorem kl35 : bltW .len [sW 35] st = .ok (.int 4) st := kd_len (n := 4) (by decide +kernel) (by decide)
def chB (i p c : Nat) : Bool := (match (sw i).cps.toList[p]? with | some ch => decide ((⟨#[ch]⟩ : Str) = sw c) | none => false) && decide ((sw i).length ≤ 100)
theorem kd_ch {i p c : Nat} (h : chB i p c = true) : ixW (sW i) (.int (p : Int)) st = .ok (sW c) st := by
  unfold chB at h
  rw [Bool.and_eq_true] at h
  obtain ⟨h1, h2⟩ := h
  have h2 := of_decide_eq_true h2
  split at h1
  · rename_i ch hc
    have h1 := of_decide_eq_true h1
    unfold ixW
    simp only [sW]
    rw [if_pos (by simp; omega), at_nat hc, ← h1]
    rfl
  · cases h1
@[simp] theorem kc28 : ixW (sW 28) (.int 0) st = .ok (sW 28) st := kd_ch (p := 0) (by decide +kernel)
@[simp] theorem kc29 : ixW (sW 29) (.int 0) st = .ok (sW 29) st := kd_ch (p := 0) (by decide +kernel)
@[simp] theorem kc4 : ixW (sW 4) (.int 0) st = .ok (sW 4) st := kd_ch (p := 0) (by decide +kernel)
@[simp] theorem kc31a : ixW (sW 31) (.int 0) st = .ok (sW 4) st := kd_ch (p := 0) (by decide +kernel)
@[simp] theorem kc31b : ixW (sW 31) (.int 1) st = .ok (sW 4) st := kd_ch (p := 1) (by decide +kernel)
@[simp] theorem kc32a : ixW (sW 32) (.int 0) st = .ok (sW 4) st := kd_ch (p := 0) (by decide +kernel)
@[simp] theorem kc32b : ixW (sW 32) (.int 1) st = .ok (sW 4) st := kd_ch (p := 1) (by decide +kernel)
@[simp] theorem kc32c : ixW (sW 32) (.int 2) st = .ok (sW 4) st := kd_ch (p := 2) (by decide +kernel)
@[simp] theorem kc33a : ixW (sW 33) (.int 0) st = .ok (sW 30) st := kd_ch (p := 0) (by decide +kernel)
@[simp] theorem kc33b : ixW (sW 33) (.int 1) st = .ok (sW 4) st := kd_ch (p := 1) (by decide +kernel)
@[simp] theorem kc33c : ixW (sW 33) (.int 2) st = .ok (sW 4) st := kd_ch (p := 2) (by decide +kernel)
@[simp] theorem kc34a : ixW (sW 34) (.int 0) st = .ok (sW 30) st := kd_ch (p := 0) (by decide +kernel)
@[simp] theorem kc34b : ixW (sW 34) (.int 1) st = .ok (sW 4) st := kd_ch (p := 1) (by decide +kernel)
@[simp] theorem kc35a : ixW (sW 35) (.int 0) st = .ok (sW 4) st := kd_ch (p := 0) (by decide +kernel)
@[simp] theorem kc35b : ixW (sW 35) (.int 1) st = .ok (sW 30) st := kd_ch (p := 1) (by decide +kernel)
@[simp] theorem kc35c : ixW (sW 35) (.int 2) st = .ok (sW 30) st := kd_ch (p := 2) (by decide +kernel)
@[simp] theorem kc35d : ixW (sW 35) (.int 3) st = .ok (sW 4) st := kd_ch (p := 3) (by decide +kernel)
@[simp] theorem eq_nil0 : cop .eq (.ref st.length) (.ref (st.length + 1)) (st ++ [.lst [], .lst []]) = .ok (.bl true) (st ++ [.lst [], .lst []]) := by
  rw [eq_nil get_app0 get_app1 ⟨[], rfl, rfl⟩]; simp
@[simp] theorem ne_nil0 : cop .ne (.ref st.length) (.ref (st.length + 1)) (st ++ [.lst [], .lst []]) = .ok (.bl false) (st ++ [.lst [], .lst []]) := by
  rw [ne_nil get_app0 get_app1 ⟨[], rfl, rfl⟩]; simp
@[simp] theorem add_1_1 {n : Nat} : n + 1 + 1 = n + 2 := (rfl)
@[simp] theorem add_2_1 {n : Nat} : n + 2 + 1 = n + 3 := (rfl)
@[simp] theorem add_1_2 {n : Nat} : n + 1 + 2 = n + 3 := (rfl)
@[simp] theorem ne_nil1 {a : SO} : cop .ne (.ref (st.length + 1)) (.ref (st.length + 2)) (st ++ [a, .lst [], .lst []]) = .ok (.bl false) (st ++ [a, .lst [], .lst []]) := by
  rw [ne_nil get_app1 get_app2 ⟨[], rfl, rfl⟩]; simp
/-- `in` of texts of the table -/
theorem in_sw {i : Nat} {l : List Nat} (hi : i < 68) (hl : ∀ j ∈ l, j < 68) : cop .isin (sW i) (.tup (l.map sW)) st = .ok (.bl (l.contains i)) st := by
  have h1 : (l.map sW).all flatW = true := by simp [flatW]
  have h2 : ((l.map sW).any fun y => eqF y (sW i)) = l.contains i := by
    rw [List.any_map]
    induction l with
    | nil => rfl
    | cons a r ih =>
      have ha := hl a List.mem_cons_self
      simp only [List.any_cons, List.contains_cons, Function.comp_apply]
      rw [ih (fun j hj => hl j (List.mem_cons_of_mem _ hj)) (by simp [flatW])]
      congr 1
      simp only [eqF, sW]
      rw [sw_beq ha hi]
      by_cases e : a = i
      · simp [e]
      · have e' : ¬ i = a := fun h => e h.symm
        simp [e, e']
  simp only [cop, isin, inF, h1, h2, flatW, orB, Bool.true_and, if_true]
theorem notin_sw {i : Nat} {l : List Nat} (hi : i < 68) (hl : ∀ j ∈ l, j < 68) : cop .notin (sW i) (.tup (l.map sW)) st = .ok (.bl (!l.contains i)) st := by
  have := in_sw (st := st) hi hl
  simp only [cop] at this ⊢
  cases h : isin (sW i) (.tup (l.map sW)) st with
  | none => rw [h] at this; cases this
  | some b =>
    rw [h] at this
    simp only [R.ok.injEq, W.bl.injEq, and_true] at this
    rw [this]
@[simp] theorem in_nx {i : Nat} (hi : i < 68) : cop .isin (sW i) (.tup [sW 30, sW 29]) st = .ok (.bl (([30, 29] : List Nat).contains i)) st := in_sw (l := [30, 29]) hi (by decide)
@[simp] theorem notin_names {x : Nm} : cop .notin (sW x.val) (.tup [sW 0, sW 1, sW 2, sW 3, sW 4, sW 5, sW 6, sW 7]) st = .ok (.bl false) st := by
  have := notin_sw (st := st) (i := x.val) (l := [0, 1, 2, 3, 4, 5, 6, 7]) (nm_lt x) (by decide)
  rw [show (!([0, 1, 2, 3, 4, 5, 6, 7] : List Nat).contains x.val) = false from (by decide : ∀ x : Nm, (!([0, 1, 2, 3, 4, 5, 6, 7] : List Nat).contains x.val) = false) x] at this
  exact this
end
section
variable {P : Prog} (H : HasN1 P) {k : Nat} {st : Store}
include H
theorem is_kind_e (hk : 0 < k) (w : W) : callF P k ("is_kind", none) [sW 4, w] st = .ok (.bl true) st := by
  obtain ⟨j, rfl⟩ : ∃ j, k = j + 1 := ⟨k - 1, by omega⟩
  rw [call_fin H.is_kind rfl]
  simp [c_is_kind]
theorem is_kind_n (hk : 0 < k) (x : Str) : callF P k ("is_kind", none) [sW 30, .str x] st = .ok (.bl true) st := by
  obtain ⟨j, rfl⟩ : ∃ j, k = j + 1 := ⟨k - 1, by omega⟩
  rw [call_fin H.is_kind rfl]
  simp [c_is_kind]
theorem is_kind_x (hk : 0 < k) (x : Str) : callF P k ("is_kind", none) [sW 29, .str x] st = .ok (.bl true) st := by
  obtain ⟨j, rfl⟩ : ∃ j, k = j + 1 := ⟨k - 1, by omega⟩
  rw [call_fin H.is_kind rfl]
  simp [c_is_kind]
theorem is_number_int (hk : 0 < k) (i : Int) : callF P k ("is_number", none) [.int i] st = .ok (.bl true) st := by
  obtain ⟨j, rfl⟩ : ∃ j, k = j + 1 := ⟨k - 1, by omega⟩
  rw [call_fin H.is_number rfl]
  simp [c_is_number]
theorem is_kind_i (hk : 1 < k) (i : Int) : callF P k ("is_kind", none) [sW 28, .int i] st = .ok (.bl true) st := by
  obtain ⟨j, rfl⟩ : ∃ j, k = j + 1 := ⟨k - 1, by omega⟩
  rw [call_fin H.is_kind rfl]
  simp [c_is_kind, is_number_int H (k := j) (by omega)]
theorem has_shape_is (hk : 2 < k) (t : Pt) : Is (callF P k ("has_shape", none) [enc t] st) fun w st' => w = .bl true ∧ Fr [] st st' := by
  refine call_is H.has_shape (by omega) rfl fun Q hQ => ?_
  have done : ∀ l, Is (R.ok (.bl true) (st ++ l)) Q := fun l => .k (hQ _ _ ⟨rfl, Fr.app⟩)
  have he := fun w st => is_kind_e H (k := k - 1) (st := st) (by omega) w
  have hn := fun w st => is_kind_n H (k := k - 1) (st := st) (by omega) w
  have hx := fun w st => is_kind_x H (k := k - 1) (st := st) (by omega) w
  have hi := fun w st => is_kind_i H (k := k - 1) (st := st) (by omega) w
  cases t <;> simp [c_has_shape, enc, H.shapes, he, hn, hx, hi] <;> exact done _
/-- the names a part has itself -/
def own : Pt → List Nm
  | .name x => [x]
  | .letp x _ _ => [x]
  | .fnp x _ => [x]
  | .cat _ x y _ => [x, y]
  | _ => []
theorem names_in_is (hk : 0 < k) (t : Pt) : Is (callF P k ("names_in", none) [enc t] st) fun w st' => w = .ref st.length ∧ st' = st ++ [.lst ((own t).map fun x => sW x.val)] := by
  refine call_is H.names_in (by omega) rfl fun Q hQ => ?_
  cases t <;> simp [c_names_in, enc, H.shapes] <;> exact .k (hQ _ _ ⟨rfl, rfl⟩)
/-- the parts within, with the names that are bound there -/
def kids : Pt → List Nm → List (Pt × List Nm)
  | .un _ a, g => [(a, g)]
  | .bi _ a b, g => [(a, g), (b, g)]
  | .ite a b c, g => [(a, g), (b, g), (c, g)]
  | .letp x a b, g => [(a, g), (b, g ++ [x])]
  | .fnp x a, g => [(a, g ++ [x])]
  | .cat a x y b, g => [(a, g), (b, g ++ [x, y])]
  | _, _ => []
def gW (g : List Nm) : W := .tup (g.map fun x => sW x.val)
theorem gW_add {g : List Nm} {l : List Nm} (h : g.length + l.length ≤ LIM) : bop .add (gW g) (.tup (l.map fun x => sW x.val)) st = .ok (gW (g ++ l)) st := by
  unfold gW
  rw [add_tup (by simpa using h)]
  simp
theorem inner_is (hk : 0 < k) (t : Pt) (g : List Nm) (hg : g.length ≤ 1000) : Is (callF P k ("inner", none) [enc t, gW g] st) fun w st' => w = .ref st.length ∧ st' = st ++ [.lst ((kids t g).map fun p => .tup [enc p.1, gW p.2])] := by
  refine call_is H.inner (by omega) rfl fun Q hQ => ?_
  have h1 : ∀ (x : Nm) st, bop .add (gW g) (.tup [sW x.val]) st = .ok (gW (g ++ [x])) st := fun x st => gW_add H (l := [x]) (by simp; omega)
  have h2 : ∀ (x y : Nm) st, bop .add (gW g) (.tup [sW x.val, sW y.val]) st = .ok (gW (g ++ [x, y])) st := fun x y st => gW_add H (l := [x, y]) (by simp; omega)
  cases t <;> simp [c_inner, enc, H.shapes, h1, h2] <;> exact .k (hQ _ _ ⟨rfl, rfl⟩)
theorem fault_is (hk : 3 < k) (t : Pt) (g : List Nm) (hw : wf g t) (a dp : Int) (ha : a < 200) (hd : dp ≤ 40) : Is (callF P k ("fault_of", none) [enc t, .int a, .int dp, gW g] st) fun w st' => w = .non ∧ Fr [] st st' := by
  refine call_is H.fault_of (by omega) rfl fun Q hQ => ?_
  have e1 : ¬ (200 : Int) ≤ a := by omega
  have e2 : ¬ (40 : Int) < dp := by omega
  simp [c_fault_of, H.most_parts, H.most_deep, e1, e2]
  refine (has_shape_is (k := k - 1) H (by omega) t).bnd ?_
  rintro _ st1 ⟨rfl, F1⟩
  have done : ∀ st2, Fr [] st1 st2 → Is (R.ok .non st2) Q := fun st2 F => .k (hQ _ _ ⟨rfl, F1.trans F⟩)
  have hin : ∀ (x : Nm) st, x ∈ g → cop .notin (sW x.val) (gW g) st = .ok (.bl false) st := by
    intro x st hx
    have := notin_sw (st := st) (i := x.val) (l := g.map (·.val)) (nm_lt x) (by simp)
    rw [show ((g.map (·.val)).map sW) = g.map fun x => sW x.val by simp] at this
    have h2 : (!(g.map (·.val)).contains x.val) = false := by
      simp
      exact ⟨x, hx, rfl⟩
    rw [h2] at this
    exact this
  have hnm := H.most_number
  have hnn := H.names
  have hni := fun t st => names_in_is H (k := k - 1) (st := st) (by omega) t
  try simp
  have ls0 : ∀ q, bltW .lenset [.ref st1.length] (st1 ++ .lst [] :: q) = .ok (.int 0) (st1 ++ .lst [] :: q) := fun q => by simp [bltW, allStrs, dl, dStep]
  have ls1 : ∀ (x : Nm) q, bltW .lenset [.ref st1.length] (st1 ++ .lst [sW x.val] :: q) = .ok (.int 1) (st1 ++ .lst [sW x.val] :: q) := fun x q => by simp [bltW, allStrs, dl, dStep]
  have ls2 : ∀ (x y : Nm) q, x ≠ y → bltW .lenset [.ref st1.length] (st1 ++ .lst [sW x.val, sW y.val] :: q) = .ok (.int 2) (st1 ++ .lst [sW x.val, sW y.val] :: q) := fun x y q h => by
    have h' : ¬ sw x.val = sw y.val := fun e => h (nm_inj.mp e)
    simp [bltW, allStrs, dl, dStep, h']
  cases t with
  | num i =>
    simp [wf, numOk] at hw
    have e1 : -1000000 ≤ i := hw.1
    have e2 := hw.2
    simp [enc, hnm, e1, e2]
    refine (hni (.num i) _).bnd ?_
    rintro _ _ ⟨rfl, rfl⟩
    simp [own, hnn, ls0]
    exact done _ Fr.app
  | name x =>
    simp [wf] at hw
    simp [enc, hnm]
    refine (hni (.name x) _).bnd ?_
    rintro _ _ ⟨rfl, rfl⟩
    simp [own, hnn, ls1, hin x _ hw]
    exact done _ Fr.app
  | fault =>
    simp [enc, hnm]
    refine (hni .fault _).bnd ?_
    rintro _ _ ⟨rfl, rfl⟩
    simp [own, hnn, ls0]
    exact done _ Fr.app
  | un u a =>
    simp [enc, hnm]
    refine (hni (.un u a) _).bnd ?_
    rintro _ _ ⟨rfl, rfl⟩
    simp [own, hnn, ls0]
    exact done _ Fr.app
  | bi u a b =>
    simp [enc, hnm]
    refine (hni (.bi u a b) _).bnd ?_
    rintro _ _ ⟨rfl, rfl⟩
    simp [own, hnn, ls0]
    exact done _ Fr.app
  | ite a b c =>
    simp [enc, hnm]
    refine (hni (.ite a b c) _).bnd ?_
    rintro _ _ ⟨rfl, rfl⟩
    simp [own, hnn, ls0]
    exact done _ Fr.app
  | letp x a b =>
    simp [enc, hnm]
    refine (hni (.letp x a b) _).bnd ?_
    rintro _ _ ⟨rfl, rfl⟩
    simp [own, hnn, ls1]
    exact done _ Fr.app
  | fnp x a =>
    simp [enc, hnm]
    refine (hni (.fnp x a) _).bnd ?_
    rintro _ _ ⟨rfl, rfl⟩
    simp [own, hnn, ls1]
    exact done _ Fr.app
  | cat a x y b =>
    simp [enc, hnm]
    refine (hni (.cat a x y b) _).bnd ?_
    rintro _ _ ⟨rfl, rfl⟩
    simp [own, hnn, ls2 x y _ hw.1]
    exact done _ Fr.app
end
end PL


set_option linter.all false
set_option maxRecDepth 100000
set_option autoImplicit false
namespace PL
open MP
open PySem (Str)
section
variable {st : Store} {k : Nat}
theorem loopC_map {α : Type} {wk : Walk} {turn : W → Store → R (Option W)} {h f : α → W} {l : List α} {st : Store} (hold : wk.holds st = true) (small : l.length ≤ LIM)
    (step : ∀ x ∈ l, turn (h x) st = .ok (some (f x)) st) : loopC wk turn (l.map h) [] st = .ok (l.map f) st := by
  have : ∀ (l : List α) (acc : List W), acc.length + l.length ≤ LIM → (∀ x ∈ l, turn (h x) st = .ok (some (f x)) st) → loopC wk turn (l.map h) acc st = .ok (acc ++ l.map f) st := by
    intro l
    induction l with
    | nil => intro acc _ _; rw [List.map_nil, loopC, if_pos hold]; simp
    | cons a r ih =>
      intro acc hl hs
      rw [List.map_cons, loopC, if_pos hold, hs a List.mem_cons_self]
      show (if acc.length < LIM then loopC wk turn (r.map h) (acc ++ [f a]) st else .bad) = _
      simp only [List.length_cons] at hl
      rw [if_pos (by omega), ih _ (by simp only [List.length_append, List.length_cons, List.length_nil]; omega) fun x hx => hs x (List.mem_cons_of_mem _ hx)]
      simp
  simpa using this l [] (by simpa using small) step
theorem pop_ref {n : Nat} {ws : List W} {w : W} (h : st[n]? = some (.lst (ws ++ [w]))) : bmtR .pop (.ref n) st [] st = .ok w (st.set n (.lst ws)) := by
  simp [bmtR, bmtW, h]
theorem extend_ref {n q : Nat} {ws vs us : List W} {st0 : Store} (h0 : st0[n]? = some (.lst us)) (h : st[n]? = some (.lst ws)) (hq : st[q]? = some (.lst vs)) (hl : ws.length + vs.length ≤ LIM) : bmtR .extend (.ref n) st0 [.ref q] st = .ok .non (st.set n (.lst (ws ++ vs))) := by
  simp [bmtR, bmtW, kindW, h, h0, hq]
  simpa using hl
theorem rev_ref {n : Nat} {ws : List W} (h : st[n]? = some (.lst ws)) : revW (.ref n) st = .ok (.ref st.length) (st ++ [.lst ws.reverse]) := by
  simp [revW, h]
/-- a part as data -/
def encD : Pt → D
  | .num i => .tup [.str (sw 8), .int i]
  | .name x => .tup [.str (sw 9), .str (sw x.val)]
  | .fault => .tup [.str (sw 10)]
  | .un u a => .tup [.str (sw u.ix), encD a]
  | .bi o a b => .tup [.str (sw o.ix), encD a, encD b]
  | .ite a b c => .tup [.str (sw 14), encD a, encD b, encD c]
  | .letp x a b => .tup [.str (sw 15), .str (sw x.val), encD a, encD b]
  | .fnp x a => .tup [.str (sw 16), .str (sw x.val), encD a]
  | .cat a x y b => .tup [.str (sw 22), encD a, .str (sw x.val), .str (sw y.val), encD b]
theorem toD_enc (t : Pt) : ∀ n, deep t ≤ n → toD st n (enc t) = some (encD t) := by
  have hs : ∀ i n, toD st n (sW i) = some (.str (sw i)) := fun i n => toD_str (okS_sw i)
  induction t with
  | num i => intro n h; obtain ⟨j, rfl⟩ : ∃ j, n = j + 1 := ⟨n - 1, by simp [deep] at h; omega⟩; simp [enc, toD, mapO, hs, encD]
  | name x => intro n h; obtain ⟨j, rfl⟩ : ∃ j, n = j + 1 := ⟨n - 1, by simp [deep] at h; omega⟩; simp [enc, toD, mapO, hs, encD]
  | fault => intro n h; obtain ⟨j, rfl⟩ : ∃ j, n = j + 1 := ⟨n - 1, by simp [deep] at h; omega⟩; simp [enc, toD, mapO, hs, encD]
  | un u a ia => intro n h; obtain ⟨j, rfl⟩ : ∃ j, n = j + 1 := ⟨n - 1, by simp [deep] at h; omega⟩; simp [deep] at h; simp [enc, toD, mapO, hs, encD, ia j (by omega)]
  | bi u a b ia ib => intro n h; obtain ⟨j, rfl⟩ : ∃ j, n = j + 1 := ⟨n - 1, by simp [deep] at h; omega⟩; simp [deep] at h; simp [enc, toD, mapO, hs, encD, ia j (by omega), ib j (by omega)]
  | ite a b c ia ib ic => intro n h; obtain ⟨j, rfl⟩ : ∃ j, n = j + 1 := ⟨n - 1, by simp [deep] at h; omega⟩; simp [deep] at h; simp [enc, toD, mapO, hs, encD, ia j (by omega), ib j (by omega), ic j (by omega)]
  | letp x a b ia ib => intro n h; obtain ⟨j, rfl⟩ : ∃ j, n = j + 1 := ⟨n - 1, by simp [deep] at h; omega⟩; simp [deep] at h; simp [enc, toD, mapO, hs, encD, ia j (by omega), ib j (by omega)]
  | fnp x a ia => intro n h; obtain ⟨j, rfl⟩ : ∃ j, n = j + 1 := ⟨n - 1, by simp [deep] at h; omega⟩; simp [deep] at h; simp [enc, toD, mapO, hs, encD, ia j (by omega)]
  | cat a x y b ia ib => intro n h; obtain ⟨j, rfl⟩ : ∃ j, n = j + 1 := ⟨n - 1, by simp [deep] at h; omega⟩; simp [deep] at h; simp [enc, toD, mapO, hs, encD, ia j (by omega), ib j (by omega)]
theorem toD_gW (g : List Nm) (n : Nat) : toD st (n + 1) (gW g) = some (.tup (g.map fun x => .str (sw x.val))) := by
  unfold gW toD
  have : ∀ g : List Nm, mapO (toD st n) (g.map fun x => sW x.val) = some (g.map fun x => D.str (sw x.val)) := by
    intro g
    induction g with
    | nil => rfl
    | cons a r ih => simp [mapO, toD_str (okS_sw a.val), ih]
  rw [this]
  rfl
/-- a part that is still to be looked at: how deep it stands, the names that are bound there -/
structure Itm where
  t : Pt
  dp : Nat
  g : List Nm
def itW (p : Itm) : W := .tup [enc p.t, .int (p.dp : Int), gW p.g]
def tot : List Itm → Nat
  | [] => 0
  | p :: r => size p.t + tot r
theorem tot_app (a b : List Itm) : tot (a ++ b) = tot a + tot b := by
  induction a with
  | nil => simp [tot]
  | cons p r ih => simp [tot, ih]; omega
theorem tot_rev (a : List Itm) : tot a.reverse = tot a := by
  induction a with
  | nil => rfl
  | cons p r ih => simp [tot_app, tot, ih]; omega
theorem tot_len (a : List Itm) : a.length ≤ tot a := by
  induction a with
  | nil => simp
  | cons p r ih => have := size_pos p.t; simp [tot]; omega
def ItOk (p : Itm) : Prop := wf p.g p.t ∧ p.dp + deep p.t ≤ 41 ∧ p.g.length ≤ 2 * p.dp
def kidsI (p : Itm) : List Itm := (kids p.t p.g).map fun q => ⟨q.1, p.dp + 1, q.2⟩
theorem kids_ok {p : Itm} (h : ItOk p) : (∀ q ∈ kidsI p, ItOk q) ∧ tot (kidsI p) + 1 = size p.t := by
  obtain ⟨t, dp, g⟩ := p
  obtain ⟨hw, hd, hg⟩ := h
  simp only at hw hd hg
  have app : ∀ (x : Nm) (t : Pt), wf (x :: g) t → wf (g ++ [x]) t := fun x t h => h.mono (by simp +contextual [or_comm])
  have app2 : ∀ (x y : Nm) (t : Pt), wf (x :: y :: g) t → wf (g ++ [x, y]) t := fun x y t h => h.mono (by intro z hz; simp at hz ⊢; rcases hz with h | h | h <;> simp [h])
  cases t <;> simp [kidsI, kids, ItOk, tot, size, deep, wf] at hw hd ⊢
  · exact ⟨hw, by omega, by omega⟩
  · exact ⟨⟨hw.1, by omega, by omega⟩, hw.2, by omega, by omega⟩
  · exact ⟨⟨⟨hw.1, by omega, by omega⟩, ⟨hw.2.1, by omega, by omega⟩, hw.2.2, by omega, by omega⟩, by omega⟩
  · exact ⟨⟨hw.1, by omega, by omega⟩, app _ _ hw.2, by omega, by omega⟩
  · exact ⟨app _ _ hw, by omega, by omega⟩
  · exact ⟨⟨hw.2.1, by omega, by omega⟩, app2 _ _ _ hw.2.2, by omega, by omega⟩
end
section
variable {P : Prog} (H : HasN1 P) {k : Nat} {st : Store}
include H
theorem need_is (hk : 4 < k) (t : Pt) (hw : wf [] t) (hs : size t ≤ 200) (hd : deep t ≤ 41) : Is (callF P k ("need_program", none) [enc t] st) fun w st' => w = .non ∧ Fr [] st st' := by
  refine call_is H.need_program (by omega) rfl fun Q hQ => ?_
  simp [c_need_program]
  rw [H.turns]
  refine loopW_is (fun n ρ st' => ∃ (L : List Itm) (a : Nat) (w3 w4 w5 w6 w7 w8 w9 : Option W), n = tot L ∧ ρ = [some (enc t), some (.ref st.length), some (.int (a : Int)), w3, w4, w5, w6, w7, w8, w9] ∧ st'[st.length]? = some (.lst (L.map itW)) ∧ Fr [] st st' ∧ a + tot L ≤ 200 ∧ ∀ p ∈ L, ItOk p) ?_ 100000 (size t) (by omega) _ _ ⟨[⟨t, 0, []⟩], 0, _, _, _, _, _, _, _, by simp [tot], rfl, get_app0, Fr.app, by simp [tot]; omega, by simp [ItOk, hw, hd]⟩
  rintro n _ st1 ⟨L, a, w3, w4, w5, w6, w7, w8, w9, hn, rfl, hl, F, ha, hL⟩ Qc hc
  simp
  rw [ne_nil (get_app hl _) (by simp) (mapO_len fun w hw => by
    obtain ⟨p, hp, rfl⟩ := List.mem_map.mp hw
    obtain ⟨h1, h2, h3⟩ := hL p hp
    exact ⟨.tup [encD p.t, .int p.dp, .tup (p.g.map fun x => .str (sw x.val))], by simp [itW, toD, mapO, toD_enc p.t 58 (by omega), toD_gW p.g 57]⟩)]
  refine .k (hc _ _ (fun h => ?_) fun h C hC => ?_)
  · simp
    exact .k (hQ _ _ ⟨rfl, F.trans Fr.app⟩)
  · simp at h
    rcases List.eq_nil_or_concat L with rfl | ⟨L0, p, rfl⟩
    · exact absurd rfl h
    rw [List.concat_eq_append] at *
    have hp := hL p (by simp)
    obtain ⟨hpw, hpd, hpg⟩ := hp
    have hdp := deep_pos p.t
    obtain ⟨hk1, hk2⟩ := kids_ok ⟨hpw, hpd, hpg⟩
    rw [tot_app] at ha hn
    simp [tot] at ha hn
    have hl2 := get_app hl [.lst []]
    rw [List.map_append] at hl2
    have F2 : Fr [] st (st1 ++ [SO.lst []]) := F.trans Fr.app
    simp
    generalize st1 ++ [SO.lst []] = st2 at *
    rw [pop_ref hl2]
    have hl3 := get_set (p := .lst (L0.map itW)) hl2
    have F3 : Fr [] st (st2.set st.length (.lst (L0.map itW))) := Fr.fresh (j := st.length) ((F2.wide (by simp)).trans (Fr.set (by simp))) (by simp)
    simp [itW]
    generalize st2.set st.length (.lst (L0.map itW)) = st3 at *
    refine (fault_is (k := k - 1) H (by omega) p.t p.g hpw a p.dp (by omega) (by omega)).bnd ?_
    rintro _ st4 ⟨rfl, F4⟩
    have hl4 := F4.get (by simp) hl3
    have F04 := F3.trans F4
    simp
    refine (inner_is (k := k - 1) H (by omega) p.t p.g (by omega)).bnd ?_
    rintro _ _ ⟨rfl, rfl⟩
    simp
    have hkl : (kids p.t p.g).length ≤ 200 := by
      have h1 : (kids p.t p.g).length = (kidsI p).length := by simp [kidsI]
      have := tot_len (kidsI p)
      omega
    rw [loopC_map (f := fun q => W.tup [enc q.1, .int ((p.dp : Int) + 1), gW q.2]) holds_app0 (by simp; omega) (fun q hq => by simp)]
    have hL0 := tot_len L0
    simp
    rw [rev_ref get_app1]
    simp
    rw [extend_ref (get_app hl4 _) (get_app hl4 _) get_app2 (by simp; omega)]
    simp
    refine hC (tot (L0 ++ (kidsI p).reverse)) _ _ ?_ ⟨L0 ++ (kidsI p).reverse, a + 1, some .non, some (.ref (st4.length + 1)), some (enc p.t), some (.int p.dp), some (gW p.g), w8, w9, rfl, ?_, ?_, ?_, ?_, ?_⟩
    · rw [tot_app, tot_rev]; omega
    · simp
    · rw [get_set (get_app hl4 _)]
      simp [kidsI, itW]
    · exact Fr.fresh (j := st.length) (((F04.trans Fr.app).wide (by simp)).trans (Fr.set (by simp))) (by simp)
    · rw [tot_app, tot_rev]; omega
    · intro q hq
      rcases List.mem_append.mp hq with h | h
      · exact hL q (by simp [h])
      · exact hk1 q (by simpa using h)
end
end PL


set_option linter.all false
set_option maxRecDepth 100000
set_option autoImplicit false
/-! N3: a program's parts, numbered; all parts of a word. -/
namespace PL
open MP
open PySem (Str)
structure HasN3 (P : Prog) : Prop extends HasN1 P where
  cinit : P.fn ("Counter", some "__init__") = some c_Counter___init__
  cnode : P.fn ("Counter", some "node") = some c_Counter_node
  numbered : P.fn ("numbered", none) = some c_numbered
  nodes : P.fn ("nodes", none) = some c_nodes
  cflds : lookS P.flds "Counter" = some [("seen" : Str)]
def numT : Pt → Nat → W
  | .num i, n => .tup [sW 8, .int n, .int i]
  | .name x, n => .tup [sW 9, .int n, sW x.val]
  | .fault, n => .tup [sW 10, .int n]
  | .un u a, n => .tup [sW u.ix, .int n, numT a (n + 1)]
  | .bi o a b, n => .tup [sW o.ix, .int n, numT a (n + 1), numT b (n + 1 + size a)]
  | .ite a b c, n => .tup [sW 14, .int n, numT a (n + 1), numT b (n + 1 + size a), numT c (n + 1 + size a + size b)]
  | .letp x a b, n => .tup [sW 15, .int n, sW x.val, numT a (n + 1), numT b (n + 1 + size a)]
  | .fnp x a, n => .tup [sW 16, .int n, sW x.val, numT a (n + 1)]
  | .cat a x y b, n => .tup [sW 22, .int n, numT a (n + 1), sW x.val, sW y.val, numT b (n + 1 + size a)]
section
variable {st : Store} {ρ : Env} {k : Walk} {body : W → Env → Store → RS}
@[simp] theorem loopF_n (h : k.holds st = true) : loopF k body [] ρ st = .nx ρ st := by rw [loopF, if_pos h]
@[simp] theorem loopF_c {w : W} {r : List W} (h : k.holds st = true) : loopF k body (w :: r) ρ st = (body w ρ st).bind fun ρ' st' => loopF k body r ρ' st' := by rw [loopF, if_pos h]
@[simp] theorem forT_eq {P : Prog} {call : Call} {t : Tg} {b : Sms} {w : W} : forT P call t b w ρ st = (evG P call t w ρ st).bindS fun ρ' st => evB P call b ρ' st := (rfl)
@[simp] theorem isi_num {t : Pt} {n : Nat} : isiW (numT t n) .tuple st = some true := by cases t <;> rfl
@[simp] theorem num_flat {t : Pt} {n : Nat} : isiW (numT t n) .str st = some false := by cases t <;> rfl
theorem kindW_lst {r : Nat} {ws vs : List W} {st st' : Store} (h : st[r]? = some (.lst ws)) (h' : st'[r]? = some (.lst vs)) : kindW (.ref r) st = kindW (.ref r) st' := by simp [kindW, h, h']
end
section
variable {P : Prog} (H : HasN3 P) {st : Store}
include H
/-- the counter at c has seen n parts -/
def Cnt (st : Store) (c n : Nat) : Prop := st[c]? = some (.ins "Counter" [("seen", .int n)])
omit H in
theorem get_self {st : Store} {c n : Nat} (h : Cnt st c n) : fldR P "seen" (.ref c) st = (if ((lookS P.flds "Counter").getD []).contains "seen" then .ok (.int n) st else .bad) := by
  unfold Cnt at h
  simp [fldR, h, fget]
theorem fld_get {c n : Nat} (h : Cnt st c n) : fldR P "seen" (.ref c) st = .ok (.int n) st := by
  rw [get_self h, H.cflds]; simp
theorem fld_set {c n : Nat} {ρ : Env} {w : W} (h : Cnt st c n) : gfR P "seen" w ρ (.ref c) st = .ok ρ (st.set c (.ins "Counter" [("seen", w)])) := by
  unfold Cnt at h
  simp [gfR, h, H.cflds, fput]
theorem mth_node {c n : Nat} {g : Nat → Str → Store → R W} (h : Cnt st c n) : mthR "node" g (.ref c) st = g c "Counter" st := by
  unfold Cnt at h
  have e : fget [(("seen" : Str), W.int (n : Int))] "node" = none := by
    have : ¬ (("seen" : Str) = "node") := by decide +kernel
    simp [fget, this]
  have e2 : ¬ (("node" : Str) = "__init__") := by decide +kernel
  simp only [mthR, h]
  rw [if_pos ⟨e, e2⟩]
omit H in
theorem app_step {f c m : Nat} {s0 s1 st : Store} {us ws : List W} {w : W} (h0 : s0[f]? = some (.lst us)) (hf : s1[f]? = some (.lst ws)) (hl : ws.length < LIM) (hc : Cnt s1 c m) (F : Fr [c] st s1) (hn : st[f]? = none) :
    ∃ s2, bmtR .append (.ref f) s0 [w] s1 = .ok .non s2 ∧ s2[f]? = some (.lst (ws ++ [w])) ∧ Cnt s2 c m ∧ Fr [c] st s2 := by
  have hne : c ≠ f := ne_of hc hf (by simp)
  refine ⟨_, append_ref h0 hf hl, get_set hf, Fr.get (Fr.set (M := [f]) (by simp)) (by simpa using hne) hc, ?_⟩
  exact Fr.fresh (j := f) ((F.wide (by simp)).trans (Fr.set (by simp))) hn
theorem node_is (t : Pt) : ∀ (k : Nat) (st : Store) (c n : Nat), deep t ≤ k → Cnt st c n →
    Is (callF P k ("Counter", some "node") [.ref c, enc t] st) fun w st' => w = numT t n ∧ Cnt st' c (n + size t) ∧ Fr [c] st st' := by
  have e2 : (decide (("node" : Str) = "__init__")) = false := by decide +kernel
  induction t with
  | num i =>
    intro k st c n hk hc
    simp [deep] at hk
    refine meth_is H.cnode e2 (by omega) rfl fun Q hQ => ?_
    have hc1 : Cnt (st.set c (.ins "Counter" [("seen", .int ((n : Int) + 1))])) c (n + 1) := get_set hc
    have F1 : Fr [c] st (st.set c (.ins "Counter" [("seen", .int ((n : Int) + 1))])) := Fr.set (by simp)
    have hlen : (st.set c (.ins "Counter" [("seen", .int ((n : Int) + 1))])).length = st.length := by simp
    simp [c_Counter_node, enc, fld_get H hc, fld_set H hc, H.shapes]
    generalize st.set c (.ins "Counter" [("seen", .int ((n : Int) + 1))]) = s0 at *
    try rw [← hlen]
    have hn : st[s0.length]? = none := by rw [hlen]; simp
    have hf := get_app0 (st := s0) (o := .lst [sW 8, .int (n : Int)]) (l := [])
    have hc2 : Cnt (s0 ++ [.lst [sW 8, .int (n : Int)]]) c (n + 1) := get_app hc1 _
    have F2 : Fr [c] st (s0 ++ [.lst [sW 8, .int (n : Int)]]) := F1.trans Fr.app
    generalize s0 ++ [SO.lst [sW 8, .int (n : Int)]] = s1 at *
    obtain ⟨s2, e, hf, hc2, F2⟩ := app_step (w := .int i) hf hf (by simp) hc2 F2 hn
    simp only [List.cons_append, List.nil_append] at hf
    simp [e]
    clear e
    rw [tuple_ref hf]
    exact .k (hQ _ _ ⟨rfl, by simp [size, Nat.add_assoc, Nat.add_comm, Nat.add_left_comm] at hc2 ⊢; exact hc2, F2⟩)
  | name x =>
    intro k st c n hk hc
    simp [deep] at hk
    refine meth_is H.cnode e2 (by omega) rfl fun Q hQ => ?_
    have hc1 : Cnt (st.set c (.ins "Counter" [("seen", .int ((n : Int) + 1))])) c (n + 1) := get_set hc
    have F1 : Fr [c] st (st.set c (.ins "Counter" [("seen", .int ((n : Int) + 1))])) := Fr.set (by simp)
    have hlen : (st.set c (.ins "Counter" [("seen", .int ((n : Int) + 1))])).length = st.length := by simp
    simp [c_Counter_node, enc, fld_get H hc, fld_set H hc, H.shapes]
    generalize st.set c (.ins "Counter" [("seen", .int ((n : Int) + 1))]) = s0 at *
    try rw [← hlen]
    have hn : st[s0.length]? = none := by rw [hlen]; simp
    have hf := get_app0 (st := s0) (o := .lst [sW 9, .int (n : Int)]) (l := [])
    have hc2 : Cnt (s0 ++ [.lst [sW 9, .int (n : Int)]]) c (n + 1) := get_app hc1 _
    have F2 : Fr [c] st (s0 ++ [.lst [sW 9, .int (n : Int)]]) := F1.trans Fr.app
    generalize s0 ++ [SO.lst [sW 9, .int (n : Int)]] = s1 at *
    obtain ⟨s2, e, hf, hc2, F2⟩ := app_step (w := sW x.val) hf hf (by simp) hc2 F2 hn
    simp only [List.cons_append, List.nil_append] at hf
    simp [e]
    clear e
    rw [tuple_ref hf]
    exact .k (hQ _ _ ⟨rfl, by simp [size, Nat.add_assoc, Nat.add_comm, Nat.add_left_comm] at hc2 ⊢; exact hc2, F2⟩)
  | fault  =>
    intro k st c n hk hc
    simp [deep] at hk
    refine meth_is H.cnode e2 (by omega) rfl fun Q hQ => ?_
    have hc1 : Cnt (st.set c (.ins "Counter" [("seen", .int ((n : Int) + 1))])) c (n + 1) := get_set hc
    have F1 : Fr [c] st (st.set c (.ins "Counter" [("seen", .int ((n : Int) + 1))])) := Fr.set (by simp)
    have hlen : (st.set c (.ins "Counter" [("seen", .int ((n : Int) + 1))])).length = st.length := by simp
    simp [c_Counter_node, enc, fld_get H hc, fld_set H hc, H.shapes]
    generalize st.set c (.ins "Counter" [("seen", .int ((n : Int) + 1))]) = s0 at *
    try rw [← hlen]
    have hn : st[s0.length]? = none := by rw [hlen]; simp
    have hf := get_app0 (st := s0) (o := .lst [sW 10, .int (n : Int)]) (l := [])
    have hc2 : Cnt (s0 ++ [.lst [sW 10, .int (n : Int)]]) c (n + 1) := get_app hc1 _
    have F2 : Fr [c] st (s0 ++ [.lst [sW 10, .int (n : Int)]]) := F1.trans Fr.app
    generalize s0 ++ [SO.lst [sW 10, .int (n : Int)]] = s1 at *
    rw [tuple_ref hf]
    exact .k (hQ _ _ ⟨rfl, by simp [size, Nat.add_assoc, Nat.add_comm, Nat.add_left_comm] at hc2 ⊢; exact hc2, F2⟩)
  | un u a ia =>
    intro k st c n hk hc
    simp [deep] at hk
    refine meth_is H.cnode e2 (by omega) rfl fun Q hQ => ?_
    have hc1 : Cnt (st.set c (.ins "Counter" [("seen", .int ((n : Int) + 1))])) c (n + 1) := get_set hc
    have F1 : Fr [c] st (st.set c (.ins "Counter" [("seen", .int ((n : Int) + 1))])) := Fr.set (by simp)
    have hlen : (st.set c (.ins "Counter" [("seen", .int ((n : Int) + 1))])).length = st.length := by simp
    simp [c_Counter_node, enc, fld_get H hc, fld_set H hc, H.shapes]
    generalize st.set c (.ins "Counter" [("seen", .int ((n : Int) + 1))]) = s0 at *
    try rw [← hlen]
    have hn : st[s0.length]? = none := by rw [hlen]; simp
    have hf := get_app0 (st := s0) (o := .lst [sW u.ix, .int (n : Int)]) (l := [])
    have hc2 : Cnt (s0 ++ [.lst [sW u.ix, .int (n : Int)]]) c (n + 1) := get_app hc1 _
    have F2 : Fr [c] st (s0 ++ [.lst [sW u.ix, .int (n : Int)]]) := F1.trans Fr.app
    generalize s0 ++ [SO.lst [sW u.ix, .int (n : Int)]] = s1 at *
    simp [mth_node H hc2]
    refine (ia _ _ _ _ (by omega) hc2).bnd ?_
    rintro _ s3 ⟨rfl, hc3, F3⟩
    have hne := ne_of hc2 hf (by simp)
    have hf3 := F3.get (by simpa using hne.symm) hf
    obtain ⟨s2, e, hf, hc2, F2⟩ := app_step (w := _) hf hf3 (by simp) hc3 (F2.trans F3) hn
    simp only [List.cons_append, List.nil_append] at hf
    try simp
    rw [e]
    clear e hf3 F3 hne
    try simp
    rw [tuple_ref hf]
    exact .k (hQ _ _ ⟨rfl, by simp [size, Nat.add_assoc, Nat.add_comm, Nat.add_left_comm] at hc2 ⊢; exact hc2, F2⟩)
  | bi o a b ia ib =>
    intro k st c n hk hc
    simp [deep] at hk
    refine meth_is H.cnode e2 (by omega) rfl fun Q hQ => ?_
    have hc1 : Cnt (st.set c (.ins "Counter" [("seen", .int ((n : Int) + 1))])) c (n + 1) := get_set hc
    have F1 : Fr [c] st (st.set c (.ins "Counter" [("seen", .int ((n : Int) + 1))])) := Fr.set (by simp)
    have hlen : (st.set c (.ins "Counter" [("seen", .int ((n : Int) + 1))])).length = st.length := by simp
    simp [c_Counter_node, enc, fld_get H hc, fld_set H hc, H.shapes]
    generalize st.set c (.ins "Counter" [("seen", .int ((n : Int) + 1))]) = s0 at *
    try rw [← hlen]
    have hn : st[s0.length]? = none := by rw [hlen]; simp
    have hf := get_app0 (st := s0) (o := .lst [sW o.ix, .int (n : Int)]) (l := [])
    have hc2 : Cnt (s0 ++ [.lst [sW o.ix, .int (n : Int)]]) c (n + 1) := get_app hc1 _
    have F2 : Fr [c] st (s0 ++ [.lst [sW o.ix, .int (n : Int)]]) := F1.trans Fr.app
    generalize s0 ++ [SO.lst [sW o.ix, .int (n : Int)]] = s1 at *
    simp [mth_node H hc2]
    refine (ia _ _ _ _ (by omega) hc2).bnd ?_
    rintro _ s3 ⟨rfl, hc3, F3⟩
    have hne := ne_of hc2 hf (by simp)
    have hf3 := F3.get (by simpa using hne.symm) hf
    obtain ⟨s2, e, hf, hc2, F2⟩ := app_step (w := _) hf hf3 (by simp) hc3 (F2.trans F3) hn
    simp only [List.cons_append, List.nil_append] at hf
    try simp
    rw [e]
    clear e hf3 F3 hne
    try simp
    simp [mth_node H hc2]
    refine (ib _ _ _ _ (by omega) hc2).bnd ?_
    rintro _ s3 ⟨rfl, hc3, F3⟩
    have hne := ne_of hc2 hf (by simp)
    have hf3 := F3.get (by simpa using hne.symm) hf
    obtain ⟨s2, e, hf, hc2, F2⟩ := app_step (w := _) hf hf3 (by simp) hc3 (F2.trans F3) hn
    simp only [List.cons_append, List.nil_append] at hf
    try simp
    rw [e]
    clear e hf3 F3 hne
    try simp
    rw [tuple_ref hf]
    exact .k (hQ _ _ ⟨rfl, by simp [size, Nat.add_assoc, Nat.add_comm, Nat.add_left_comm] at hc2 ⊢; exact hc2, F2⟩)
  | ite a b d ia ib ic =>
    intro k st c n hk hc
    simp [deep] at hk
    refine meth_is H.cnode e2 (by omega) rfl fun Q hQ => ?_
    have hc1 : Cnt (st.set c (.ins "Counter" [("seen", .int ((n : Int) + 1))])) c (n + 1) := get_set hc
    have F1 : Fr [c] st (st.set c (.ins "Counter" [("seen", .int ((n : Int) + 1))])) := Fr.set (by simp)
    have hlen : (st.set c (.ins "Counter" [("seen", .int ((n : Int) + 1))])).length = st.length := by simp
    simp [c_Counter_node, enc, fld_get H hc, fld_set H hc, H.shapes]
    generalize st.set c (.ins "Counter" [("seen", .int ((n : Int) + 1))]) = s0 at *
    try rw [← hlen]
    have hn : st[s0.length]? = none := by rw [hlen]; simp
    have hf := get_app0 (st := s0) (o := .lst [sW 14, .int (n : Int)]) (l := [])
    have hc2 : Cnt (s0 ++ [.lst [sW 14, .int (n : Int)]]) c (n + 1) := get_app hc1 _
    have F2 : Fr [c] st (s0 ++ [.lst [sW 14, .int (n : Int)]]) := F1.trans Fr.app
    generalize s0 ++ [SO.lst [sW 14, .int (n : Int)]] = s1 at *
    simp [mth_node H hc2]
    refine (ia _ _ _ _ (by omega) hc2).bnd ?_
    rintro _ s3 ⟨rfl, hc3, F3⟩
    have hne := ne_of hc2 hf (by simp)
    have hf3 := F3.get (by simpa using hne.symm) hf
    obtain ⟨s2, e, hf, hc2, F2⟩ := app_step (w := _) hf hf3 (by simp) hc3 (F2.trans F3) hn
    simp only [List.cons_append, List.nil_append] at hf
    try simp
    rw [e]
    clear e hf3 F3 hne
    try simp
    simp [mth_node H hc2]
    refine (ib _ _ _ _ (by omega) hc2).bnd ?_
    rintro _ s3 ⟨rfl, hc3, F3⟩
    have hne := ne_of hc2 hf (by simp)
    have hf3 := F3.get (by simpa using hne.symm) hf
    obtain ⟨s2, e, hf, hc2, F2⟩ := app_step (w := _) hf hf3 (by simp) hc3 (F2.trans F3) hn
    simp only [List.cons_append, List.nil_append] at hf
    try simp
    rw [e]
    clear e hf3 F3 hne
    try simp
    simp [mth_node H hc2]
    refine (ic _ _ _ _ (by omega) hc2).bnd ?_
    rintro _ s3 ⟨rfl, hc3, F3⟩
    have hne := ne_of hc2 hf (by simp)
    have hf3 := F3.get (by simpa using hne.symm) hf
    obtain ⟨s2, e, hf, hc2, F2⟩ := app_step (w := _) hf hf3 (by simp) hc3 (F2.trans F3) hn
    simp only [List.cons_append, List.nil_append] at hf
    try simp
    rw [e]
    clear e hf3 F3 hne
    try simp
    rw [tuple_ref hf]
    exact .k (hQ _ _ ⟨rfl, by simp [size, Nat.add_assoc, Nat.add_comm, Nat.add_left_comm] at hc2 ⊢; exact hc2, F2⟩)
  | letp x a b ia ib =>
    intro k st c n hk hc
    simp [deep] at hk
    refine meth_is H.cnode e2 (by omega) rfl fun Q hQ => ?_
    have hc1 : Cnt (st.set c (.ins "Counter" [("seen", .int ((n : Int) + 1))])) c (n + 1) := get_set hc
    have F1 : Fr [c] st (st.set c (.ins "Counter" [("seen", .int ((n : Int) + 1))])) := Fr.set (by simp)
    have hlen : (st.set c (.ins "Counter" [("seen", .int ((n : Int) + 1))])).length = st.length := by simp
    simp [c_Counter_node, enc, fld_get H hc, fld_set H hc, H.shapes]
    generalize st.set c (.ins "Counter" [("seen", .int ((n : Int) + 1))]) = s0 at *
    try rw [← hlen]
    have hn : st[s0.length]? = none := by rw [hlen]; simp
    have hf := get_app0 (st := s0) (o := .lst [sW 15, .int (n : Int)]) (l := [])
    have hc2 : Cnt (s0 ++ [.lst [sW 15, .int (n : Int)]]) c (n + 1) := get_app hc1 _
    have F2 : Fr [c] st (s0 ++ [.lst [sW 15, .int (n : Int)]]) := F1.trans Fr.app
    generalize s0 ++ [SO.lst [sW 15, .int (n : Int)]] = s1 at *
    obtain ⟨s2, e, hf, hc2, F2⟩ := app_step (w := sW x.val) hf hf (by simp) hc2 F2 hn
    simp only [List.cons_append, List.nil_append] at hf
    simp [e]
    clear e
    simp [mth_node H hc2]
    refine (ia _ _ _ _ (by omega) hc2).bnd ?_
    rintro _ s3 ⟨rfl, hc3, F3⟩
    have hne := ne_of hc2 hf (by simp)
    have hf3 := F3.get (by simpa using hne.symm) hf
    obtain ⟨s2, e, hf, hc2, F2⟩ := app_step (w := _) hf hf3 (by simp) hc3 (F2.trans F3) hn
    simp only [List.cons_append, List.nil_append] at hf
    try simp
    rw [e]
    clear e hf3 F3 hne
    try simp
    simp [mth_node H hc2]
    refine (ib _ _ _ _ (by omega) hc2).bnd ?_
    rintro _ s3 ⟨rfl, hc3, F3⟩
    have hne := ne_of hc2 hf (by simp)
    have hf3 := F3.get (by simpa using hne.symm) hf
    obtain ⟨s2, e, hf, hc2, F2⟩ := app_step (w := _) hf hf3 (by simp) hc3 (F2.trans F3) hn
    simp only [List.cons_append, List.nil_append] at hf
    try simp
    rw [e]
    clear e hf3 F3 hne
    try simp
    rw [tuple_ref hf]
    exact .k (hQ _ _ ⟨rfl, by simp [size, Nat.add_assoc, Nat.add_comm, Nat.add_left_comm] at hc2 ⊢; exact hc2, F2⟩)
  | fnp x a ia =>
    intro k st c n hk hc
    simp [deep] at hk
    refine meth_is H.cnode e2 (by omega) rfl fun Q hQ => ?_
    have hc1 : Cnt (st.set c (.ins "Counter" [("seen", .int ((n : Int) + 1))])) c (n + 1) := get_set hc
    have F1 : Fr [c] st (st.set c (.ins "Counter" [("seen", .int ((n : Int) + 1))])) := Fr.set (by simp)
    have hlen : (st.set c (.ins "Counter" [("seen", .int ((n : Int) + 1))])).length = st.length := by simp
    simp [c_Counter_node, enc, fld_get H hc, fld_set H hc, H.shapes]
    generalize st.set c (.ins "Counter" [("seen", .int ((n : Int) + 1))]) = s0 at *
    try rw [← hlen]
    have hn : st[s0.length]? = none := by rw [hlen]; simp
    have hf := get_app0 (st := s0) (o := .lst [sW 16, .int (n : Int)]) (l := [])
    have hc2 : Cnt (s0 ++ [.lst [sW 16, .int (n : Int)]]) c (n + 1) := get_app hc1 _
    have F2 : Fr [c] st (s0 ++ [.lst [sW 16, .int (n : Int)]]) := F1.trans Fr.app
    generalize s0 ++ [SO.lst [sW 16, .int (n : Int)]] = s1 at *
    obtain ⟨s2, e, hf, hc2, F2⟩ := app_step (w := sW x.val) hf hf (by simp) hc2 F2 hn
    simp only [List.cons_append, List.nil_append] at hf
    simp [e]
    clear e
    simp [mth_node H hc2]
    refine (ia _ _ _ _ (by omega) hc2).bnd ?_
    rintro _ s3 ⟨rfl, hc3, F3⟩
    have hne := ne_of hc2 hf (by simp)
    have hf3 := F3.get (by simpa using hne.symm) hf
    obtain ⟨s2, e, hf, hc2, F2⟩ := app_step (w := _) hf hf3 (by simp) hc3 (F2.trans F3) hn
    simp only [List.cons_append, List.nil_append] at hf
    try simp
    rw [e]
    clear e hf3 F3 hne
    try simp
    rw [tuple_ref hf]
    exact .k (hQ _ _ ⟨rfl, by simp [size, Nat.add_assoc, Nat.add_comm, Nat.add_left_comm] at hc2 ⊢; exact hc2, F2⟩)
  | cat a x y b ia ib =>
    intro k st c n hk hc
    simp [deep] at hk
    refine meth_is H.cnode e2 (by omega) rfl fun Q hQ => ?_
    have hc1 : Cnt (st.set c (.ins "Counter" [("seen", .int ((n : Int) + 1))])) c (n + 1) := get_set hc
    have F1 : Fr [c] st (st.set c (.ins "Counter" [("seen", .int ((n : Int) + 1))])) := Fr.set (by simp)
    have hlen : (st.set c (.ins "Counter" [("seen", .int ((n : Int) + 1))])).length = st.length := by simp
    simp [c_Counter_node, enc, fld_get H hc, fld_set H hc, H.shapes]
    generalize st.set c (.ins "Counter" [("seen", .int ((n : Int) + 1))]) = s0 at *
    try rw [← hlen]
    have hn : st[s0.length]? = none := by rw [hlen]; simp
    have hf := get_app0 (st := s0) (o := .lst [sW 22, .int (n : Int)]) (l := [])
    have hc2 : Cnt (s0 ++ [.lst [sW 22, .int (n : Int)]]) c (n + 1) := get_app hc1 _
    have F2 : Fr [c] st (s0 ++ [.lst [sW 22, .int (n : Int)]]) := F1.trans Fr.app
    generalize s0 ++ [SO.lst [sW 22, .int (n : Int)]] = s1 at *
    simp [mth_node H hc2]
    refine (ia _ _ _ _ (by omega) hc2).bnd ?_
    rintro _ s3 ⟨rfl, hc3, F3⟩
    have hne := ne_of hc2 hf (by simp)
    have hf3 := F3.get (by simpa using hne.symm) hf
    obtain ⟨s2, e, hf, hc2, F2⟩ := app_step (w := _) hf hf3 (by simp) hc3 (F2.trans F3) hn
    simp only [List.cons_append, List.nil_append] at hf
    try simp
    rw [e]
    clear e hf3 F3 hne
    try simp
    obtain ⟨s2, e, hf, hc2, F2⟩ := app_step (w := sW x.val) hf hf (by simp) hc2 F2 hn
    simp only [List.cons_append, List.nil_append] at hf
    simp [e]
    clear e
    obtain ⟨s2, e, hf, hc2, F2⟩ := app_step (w := sW y.val) hf hf (by simp) hc2 F2 hn
    simp only [List.cons_append, List.nil_append] at hf
    simp [e]
    clear e
    simp [mth_node H hc2]
    refine (ib _ _ _ _ (by omega) hc2).bnd ?_
    rintro _ s3 ⟨rfl, hc3, F3⟩
    have hne := ne_of hc2 hf (by simp)
    have hf3 := F3.get (by simpa using hne.symm) hf
    obtain ⟨s2, e, hf, hc2, F2⟩ := app_step (w := _) hf hf3 (by simp) hc3 (F2.trans F3) hn
    simp only [List.cons_append, List.nil_append] at hf
    try simp
    rw [e]
    clear e hf3 F3 hne
    try simp
    rw [tuple_ref hf]
    exact .k (hQ _ _ ⟨rfl, by simp [size, Nat.add_assoc, Nat.add_comm, Nat.add_left_comm] at hc2 ⊢; exact hc2, F2⟩)
end
end PL


set_option linter.all false
set_option maxRecDepth 100000
set_option autoImplicit false
/-! N4: numbered, nodes. -/
namespace PL
open MP
open PySem (Str)
def wd : Pt → Nat
  | .num _ => 8 | .name _ => 9 | .fault => 10 | .un u _ => u.ix | .bi o _ _ => o.ix | .ite _ _ _ => 14 | .letp _ _ _ => 15 | .fnp _ _ => 16 | .cat _ _ _ _ => 22
/-- the parts of a word, numbered -/
def nodesT (j : Nat) : Pt → Nat → List W
  | .num i, n => if 8 = j then [numT (.num i) n] else []
  | .name x, n => if 9 = j then [numT (.name x) n] else []
  | .fault, n => if 10 = j then [numT .fault n] else []
  | .un u a, n => (if u.ix = j then [numT (.un u a) n] else []) ++ nodesT j a (n + 1)
  | .bi o a b, n => (if o.ix = j then [numT (.bi o a b) n] else []) ++ nodesT j a (n + 1) ++ nodesT j b (n + 1 + size a)
  | .ite a b c, n => (if 14 = j then [numT (.ite a b c) n] else []) ++ nodesT j a (n + 1) ++ nodesT j b (n + 1 + size a) ++ nodesT j c (n + 1 + size a + size b)
  | .letp x a b, n => (if 15 = j then [numT (.letp x a b) n] else []) ++ nodesT j a (n + 1) ++ nodesT j b (n + 1 + size a)
  | .fnp x a, n => (if 16 = j then [numT (.fnp x a) n] else []) ++ nodesT j a (n + 1)
  | .cat a x y b, n => (if 22 = j then [numT (.cat a x y b) n] else []) ++ nodesT j a (n + 1) ++ nodesT j b (n + 1 + size a)
theorem one_len (b : Prop) [Decidable b] (w : W) : (if b then [w] else []).length ≤ 1 := by split <;> simp
theorem nodes_len (j : Nat) (t : Pt) : ∀ n, (nodesT j t n).length ≤ size t := by
  induction t with
  | num i => intro n; simpa [nodesT, size] using one_len _ _
  | name x => intro n; simpa [nodesT, size] using one_len _ _
  | fault => intro n; simpa [nodesT, size] using one_len _ _
  | un u a ia => intro n; have := ia (n + 1); have := one_len (u.ix = j) (numT (.un u a) n); simp only [nodesT, size, List.length_append]; omega
  | bi u a b ia ib => intro n; have := ia (n + 1); have := ib (n + 1 + size a); have := one_len (u.ix = j) (numT (.bi u a b) n); simp only [nodesT, size, List.length_append]; omega
  | ite a b c ia ib ic => intro n; have := ia (n + 1); have := ib (n + 1 + size a); have := ic (n + 1 + size a + size b); have := one_len (14 = j) (numT (.ite a b c) n); simp only [nodesT, size, List.length_append]; omega
  | letp x a b ia ib => intro n; have := ia (n + 1); have := ib (n + 1 + size a); have := one_len (15 = j) (numT (.letp x a b) n); simp only [nodesT, size, List.length_append]; omega
  | fnp x a ia => intro n; have := ia (n + 1); have := one_len (16 = j) (numT (.fnp x a) n); simp only [nodesT, size, List.length_append]; omega
  | cat a x y b ia ib => intro n; have := ia (n + 1); have := ib (n + 1 + size a); have := one_len (22 = j) (numT (.cat a x y b) n); simp only [nodesT, size, List.length_append]; omega
section
variable {st : Store}
@[simp] theorem slW2 {a b : W} {r : List W} : slW (.tup (a :: b :: r)) (some 2) none st = .ok (.tup r) st := by
  simp [slW, cut, sIx]
@[simp] theorem cnd_lst {b : Bool} {x y : List W} : cnd b (fun _ => R.ok (W.ref st.length) (st ++ [.lst x])) (fun _ => R.ok (W.ref st.length) (st ++ [.lst y])) = R.ok (.ref st.length) (st ++ [.lst (if b then x else y)]) := by cases b <;> rfl
theorem add_refs {f p : Nat} {a b : List W} (hf : st[f]? = some (.lst a)) (hp : st[p]? = some (.lst b)) (h : a.length + b.length ≤ LIM) : ∃ s2, bop .add (.ref f) (.ref p) st = .ok (.ref st.length) s2 ∧ s2[st.length]? = some (.lst (a ++ b)) ∧ Fr [] st s2 := ⟨_, add_lst hf hp h, get_app0, Fr.app⟩
end
section
variable {P : Prog} (H : HasN3 P) {k : Nat} {st : Store}
include H
theorem numbered_is (t : Pt) (hk : deep t + 1 ≤ k) (hk2 : 2 < k) : Is (callF P k ("numbered", none) [enc t] st) fun w st' => w = numT t 0 ∧ Fr [] st st' := by
  refine call_is H.numbered (by omega) rfl fun Q hQ => ?_
  simp [c_numbered]
  have h0 : Is (callF P (k - 1) ("Counter", some "__init__") [.ref st.length] (st ++ [.ins "Counter" []])) fun w st' => w = .non ∧ st' = st ++ [.ins "Counter" [("seen", .int 0)]] := by
    refine init_is H.cinit (by omega) rfl fun Q hQ => ?_
    have : gfR P "seen" (.int 0) [some (.ref st.length)] (.ref st.length) (st ++ [.ins "Counter" []]) = .ok [some (.ref st.length)] (st ++ [.ins "Counter" [("seen", .int 0)]]) := by
      simp [gfR, H.cflds, fput]
    simp [c_Counter___init__, this]
    exact .k (hQ _ _ ⟨rfl, rfl⟩)
  refine h0.bnd ?_
  rintro _ _ ⟨rfl, rfl⟩
  have hc : Cnt (st ++ [.ins "Counter" [("seen", .int 0)]]) st.length 0 := get_app0
  simp [mth_node H hc]
  refine (node_is H t (k - 1) _ _ _ (by omega) hc).mono ?_
  rintro _ st1 ⟨rfl, _, F⟩
  exact hQ _ _ ⟨rfl, Fr.fresh (j := st.length) ((Fr.app.trans F).wide (by simp)) (by simp)⟩
theorem nodes_is {j : Nat} (hj : j < 68) (t : Pt) : ∀ (k : Nat) (st : Store) (n : Nat), deep t ≤ k → size t ≤ 1000 →
    Is (callF P k ("nodes", none) [numT t n, sW j] st) fun w st' => ∃ p, w = .ref p ∧ st'[p]? = some (.lst (nodesT j t n)) ∧ Fr [] st st' := by
  induction t with
  | num i =>
    intro k st n hk hs
    simp [deep] at hk
    refine call_is H.nodes (by omega) rfl fun Q hQ => ?_
    simp [c_nodes, numT, hj]
    have hf := get_app0 (st := st) (o := .lst (if 8 = j then [numT (.num i) n] else [])) (l := [])
    have F : Fr [] st (st ++ [.lst (if 8 = j then [numT (.num i) n] else [])]) := Fr.app
    have hl0 := one_len (8 = j) (numT (.num i) n)
    simp only [numT] at hf F hl0
    generalize st ++ [SO.lst (if 8 = j then [_] else [])] = s1 at *
    generalize st.length = f at *
    exact .k (hQ _ _ ⟨_, rfl, hf, F⟩)
  | name x =>
    intro k st n hk hs
    simp [deep] at hk
    refine call_is H.nodes (by omega) rfl fun Q hQ => ?_
    simp [c_nodes, numT, hj]
    have hf := get_app0 (st := st) (o := .lst (if 9 = j then [numT (.name x) n] else [])) (l := [])
    have F : Fr [] st (st ++ [.lst (if 9 = j then [numT (.name x) n] else [])]) := Fr.app
    have hl0 := one_len (9 = j) (numT (.name x) n)
    simp only [numT] at hf F hl0
    generalize st ++ [SO.lst (if 9 = j then [_] else [])] = s1 at *
    generalize st.length = f at *
    exact .k (hQ _ _ ⟨_, rfl, hf, F⟩)
  | fault  =>
    intro k st n hk hs
    simp [deep] at hk
    refine call_is H.nodes (by omega) rfl fun Q hQ => ?_
    simp [c_nodes, numT, hj]
    have hf := get_app0 (st := st) (o := .lst (if 10 = j then [numT .fault n] else [])) (l := [])
    have F : Fr [] st (st ++ [.lst (if 10 = j then [numT .fault n] else [])]) := Fr.app
    have hl0 := one_len (10 = j) (numT .fault n)
    simp only [numT] at hf F hl0
    generalize st ++ [SO.lst (if 10 = j then [_] else [])] = s1 at *
    generalize st.length = f at *
    exact .k (hQ _ _ ⟨_, rfl, hf, F⟩)
  | un u a ia =>
    intro k st n hk hs
    simp [deep] at hk
    refine call_is H.nodes (by omega) rfl fun Q hQ => ?_
    simp [c_nodes, numT, hj]
    have hf := get_app0 (st := st) (o := .lst (if u.ix = j then [numT (.un u a) n] else [])) (l := [])
    have F : Fr [] st (st ++ [.lst (if u.ix = j then [numT (.un u a) n] else [])]) := Fr.app
    have hl0 := one_len (u.ix = j) (numT (.un u a) n)
    simp only [numT] at hf F hl0
    generalize st ++ [SO.lst (if u.ix = j then [_] else [])] = s1 at *
    generalize st.length = f at *
    simp [size] at hs
    refine (ia _ _ _ (by omega) (by omega)).bnd ?_
    rintro _ s2 ⟨p, rfl, hp, F2⟩
    have hl1 := nodes_len j a (n + 1)
    obtain ⟨s3, e, hf3, F3⟩ := add_refs (F2.get (by simp) hf) hp (by simp only [List.length_append, LIM_eq]; omega)
    try simp
    rw [e]
    replace F := (F.trans F2).trans F3
    replace hf := hf3
    clear hf3 F2 F3 hp e
    generalize s2.length = f at *
    try simp
    exact .k (hQ _ _ ⟨_, rfl, hf, F⟩)
  | bi o a b ia ib =>
    intro k st n hk hs
    simp [deep] at hk
    refine call_is H.nodes (by omega) rfl fun Q hQ => ?_
    simp [c_nodes, numT, hj]
    have hf := get_app0 (st := st) (o := .lst (if o.ix = j then [numT (.bi o a b) n] else [])) (l := [])
    have F : Fr [] st (st ++ [.lst (if o.ix = j then [numT (.bi o a b) n] else [])]) := Fr.app
    have hl0 := one_len (o.ix = j) (numT (.bi o a b) n)
    simp only [numT] at hf F hl0
    generalize st ++ [SO.lst (if o.ix = j then [_] else [])] = s1 at *
    generalize st.length = f at *
    simp [size] at hs
    refine (ia _ _ _ (by omega) (by omega)).bnd ?_
    rintro _ s2 ⟨p, rfl, hp, F2⟩
    have hl1 := nodes_len j a (n + 1)
    obtain ⟨s3, e, hf3, F3⟩ := add_refs (F2.get (by simp) hf) hp (by simp only [List.length_append, LIM_eq]; omega)
    try simp
    rw [e]
    replace F := (F.trans F2).trans F3
    replace hf := hf3
    clear hf3 F2 F3 hp e
    generalize s2.length = f at *
    try simp
    refine (ib _ _ _ (by omega) (by omega)).bnd ?_
    rintro _ s2 ⟨p, rfl, hp, F2⟩
    have hl1 := nodes_len j b (n + 1 + size a)
    obtain ⟨s3, e, hf3, F3⟩ := add_refs (F2.get (by simp) hf) hp (by simp only [List.length_append, LIM_eq]; omega)
    try simp
    rw [e]
    replace F := (F.trans F2).trans F3
    replace hf := hf3
    clear hf3 F2 F3 hp e
    generalize s2.length = f at *
    try simp
    exact .k (hQ _ _ ⟨_, rfl, hf, F⟩)
  | ite a b d ia ib ic =>
    intro k st n hk hs
    simp [deep] at hk
    refine call_is H.nodes (by omega) rfl fun Q hQ => ?_
    simp [c_nodes, numT, hj]
    have hf := get_app0 (st := st) (o := .lst (if 14 = j then [numT (.ite a b d) n] else [])) (l := [])
    have F : Fr [] st (st ++ [.lst (if 14 = j then [numT (.ite a b d) n] else [])]) := Fr.app
    have hl0 := one_len (14 = j) (numT (.ite a b d) n)
    simp only [numT] at hf F hl0
    generalize st ++ [SO.lst (if 14 = j then [_] else [])] = s1 at *
    generalize st.length = f at *
    simp [size] at hs
    refine (ia _ _ _ (by omega) (by omega)).bnd ?_
    rintro _ s2 ⟨p, rfl, hp, F2⟩
    have hl1 := nodes_len j a (n + 1)
    obtain ⟨s3, e, hf3, F3⟩ := add_refs (F2.get (by simp) hf) hp (by simp only [List.length_append, LIM_eq]; omega)
    try simp
    rw [e]
    replace F := (F.trans F2).trans F3
    replace hf := hf3
    clear hf3 F2 F3 hp e
    generalize s2.length = f at *
    try simp
    refine (ib _ _ _ (by omega) (by omega)).bnd ?_
    rintro _ s2 ⟨p, rfl, hp, F2⟩
    have hl1 := nodes_len j b (n + 1 + size a)
    obtain ⟨s3, e, hf3, F3⟩ := add_refs (F2.get (by simp) hf) hp (by simp only [List.length_append, LIM_eq]; omega)
    try simp
    rw [e]
    replace F := (F.trans F2).trans F3
    replace hf := hf3
    clear hf3 F2 F3 hp e
    generalize s2.length = f at *
    try simp
    refine (ic _ _ _ (by omega) (by omega)).bnd ?_
    rintro _ s2 ⟨p, rfl, hp, F2⟩
    have hl1 := nodes_len j d (n + 1 + size a + size b)
    obtain ⟨s3, e, hf3, F3⟩ := add_refs (F2.get (by simp) hf) hp (by simp only [List.length_append, LIM_eq]; omega)
    try simp
    rw [e]
    replace F := (F.trans F2).trans F3
    replace hf := hf3
    clear hf3 F2 F3 hp e
    generalize s2.length = f at *
    try simp
    exact .k (hQ _ _ ⟨_, rfl, hf, F⟩)
  | letp x a b ia ib =>
    intro k st n hk hs
    simp [deep] at hk
    refine call_is H.nodes (by omega) rfl fun Q hQ => ?_
    simp [c_nodes, numT, hj]
    have hf := get_app0 (st := st) (o := .lst (if 15 = j then [numT (.letp x a b) n] else [])) (l := [])
    have F : Fr [] st (st ++ [.lst (if 15 = j then [numT (.letp x a b) n] else [])]) := Fr.app
    have hl0 := one_len (15 = j) (numT (.letp x a b) n)
    simp only [numT] at hf F hl0
    generalize st ++ [SO.lst (if 15 = j then [_] else [])] = s1 at *
    generalize st.length = f at *
    simp [size] at hs
    refine (ia _ _ _ (by omega) (by omega)).bnd ?_
    rintro _ s2 ⟨p, rfl, hp, F2⟩
    have hl1 := nodes_len j a (n + 1)
    obtain ⟨s3, e, hf3, F3⟩ := add_refs (F2.get (by simp) hf) hp (by simp only [List.length_append, LIM_eq]; omega)
    try simp
    rw [e]
    replace F := (F.trans F2).trans F3
    replace hf := hf3
    clear hf3 F2 F3 hp e
    generalize s2.length = f at *
    try simp
    refine (ib _ _ _ (by omega) (by omega)).bnd ?_
    rintro _ s2 ⟨p, rfl, hp, F2⟩
    have hl1 := nodes_len j b (n + 1 + size a)
    obtain ⟨s3, e, hf3, F3⟩ := add_refs (F2.get (by simp) hf) hp (by simp only [List.length_append, LIM_eq]; omega)
    try simp
    rw [e]
    replace F := (F.trans F2).trans F3
    replace hf := hf3
    clear hf3 F2 F3 hp e
    generalize s2.length = f at *
    try simp
    exact .k (hQ _ _ ⟨_, rfl, hf, F⟩)
  | fnp x a ia =>
    intro k st n hk hs
    simp [deep] at hk
    refine call_is H.nodes (by omega) rfl fun Q hQ => ?_
    simp [c_nodes, numT, hj]
    have hf := get_app0 (st := st) (o := .lst (if 16 = j then [numT (.fnp x a) n] else [])) (l := [])
    have F : Fr [] st (st ++ [.lst (if 16 = j then [numT (.fnp x a) n] else [])]) := Fr.app
    have hl0 := one_len (16 = j) (numT (.fnp x a) n)
    simp only [numT] at hf F hl0
    generalize st ++ [SO.lst (if 16 = j then [_] else [])] = s1 at *
    generalize st.length = f at *
    simp [size] at hs
    refine (ia _ _ _ (by omega) (by omega)).bnd ?_
    rintro _ s2 ⟨p, rfl, hp, F2⟩
    have hl1 := nodes_len j a (n + 1)
    obtain ⟨s3, e, hf3, F3⟩ := add_refs (F2.get (by simp) hf) hp (by simp only [List.length_append, LIM_eq]; omega)
    try simp
    rw [e]
    replace F := (F.trans F2).trans F3
    replace hf := hf3
    clear hf3 F2 F3 hp e
    generalize s2.length = f at *
    try simp
    exact .k (hQ _ _ ⟨_, rfl, hf, F⟩)
  | cat a x y b ia ib =>
    intro k st n hk hs
    simp [deep] at hk
    refine call_is H.nodes (by omega) rfl fun Q hQ => ?_
    simp [c_nodes, numT, hj]
    have hf := get_app0 (st := st) (o := .lst (if 22 = j then [numT (.cat a x y b) n] else [])) (l := [])
    have F : Fr [] st (st ++ [.lst (if 22 = j then [numT (.cat a x y b) n] else [])]) := Fr.app
    have hl0 := one_len (22 = j) (numT (.cat a x y b) n)
    simp only [numT] at hf F hl0
    generalize st ++ [SO.lst (if 22 = j then [_] else [])] = s1 at *
    generalize st.length = f at *
    simp [size] at hs
    refine (ia _ _ _ (by omega) (by omega)).bnd ?_
    rintro _ s2 ⟨p, rfl, hp, F2⟩
    have hl1 := nodes_len j a (n + 1)
    obtain ⟨s3, e, hf3, F3⟩ := add_refs (F2.get (by simp) hf) hp (by simp only [List.length_append, LIM_eq]; omega)
    try simp
    rw [e]
    replace F := (F.trans F2).trans F3
    replace hf := hf3
    clear hf3 F2 F3 hp e
    generalize s2.length = f at *
    try simp
    refine (ib _ _ _ (by omega) (by omega)).bnd ?_
    rintro _ s2 ⟨p, rfl, hp, F2⟩
    have hl1 := nodes_len j b (n + 1 + size a)
    obtain ⟨s3, e, hf3, F3⟩ := add_refs (F2.get (by simp) hf) hp (by simp only [List.length_append, LIM_eq]; omega)
    try simp
    rw [e]
    replace F := (F.trans F2).trans F3
    replace hf := hf3
    clear hf3 F2 F3 hp e
    generalize s2.length = f at *
    try simp
    exact .k (hQ _ _ ⟨_, rfl, hf, F⟩)
end
end PL


set_option linter.all false
set_option maxRecDepth 100000
set_option autoImplicit false
/-! N5: papers. -/
namespace PL
open MP
open PySem (Str)
structure HasN5 (P : Prog) : Prop extends HasN3 P where
  behind : P.fn ("behind", none) = some c_behind
  either : P.fn ("either", none) = some c_either
  inner_of : P.fn ("inner_of", none) = some c_inner_of
  uses : P.fn ("uses", none) = some c_uses
  word_of : P.fn ("word_of", none) = some c_word_of
  paper_of : P.fn ("paper_of", none) = some c_paper_of
  QUIET : lookS P.glos "QUIET" = some (sW 39)
  FREE : lookS P.glos "FREE" = some (sW 40)
  USED : lookS P.glos "USED" = some (sW 41)
  ORDER : lookS P.glos "ORDER" = some (.tup [sW 39, sW 40, sW 41])
  LOUD : lookS P.glos "LOUD" = some (.tup [sW 17, sW 24, sW 25, sW 23])
@[simp] theorem ixU_say : U.ix .say = 18 := (rfl)
@[simp] theorem ixU_box : U.ix .box = 19 := (rfl)
@[simp] theorem ixU_look : U.ix .look = 20 := (rfl)
@[simp] theorem ixU_throw : U.ix .throw = 23 := (rfl)
@[simp] theorem ixU_drop : U.ix .drop = 25 := (rfl)
@[simp] theorem ixB_add : B.ix .add = 11 := (rfl)
@[simp] theorem ixB_take : B.ix .take = 12 := (rfl)
@[simp] theorem ixB_less : B.ix .less = 13 := (rfl)
@[simp] theorem ixB_call : B.ix .call = 17 := (rfl)
@[simp] theorem ixB_put : B.ix .put = 21 := (rfl)
@[simp] theorem ixB_go : B.ix .go = 24 := (rfl)
@[simp] theorem ixB_last : B.ix .last = 26 := (rfl)
@[simp] theorem ixB_els : B.ix .els = 27 := (rfl)
inductive Q3 where | quiet | free | used
  deriving DecidableEq
abbrev Wo := Option Q3
def wdW : Wo → W
  | none => .non
  | some .quiet => sW 39
  | some .free => sW 40
  | some .used => sW 41
def behindQ (a b : Wo) : Wo := match a, b with
  | none, _ => none
  | _, none => none
  | some .quiet, b => b
  | some _, some .used => none
  | a, _ => a
def eitherQ (a b : Wo) : Wo := match a, b with
  | none, _ => none
  | _, none => none
  | some .used, _ => some .used
  | _, some .used => some .used
  | some .free, _ => some .free
  | _, some .free => some .free
  | _, _ => some .quiet
def kW : Option Nm → W
  | none => .non
  | some x => sW x.val
def isNm (a : Pt) (k : Option Nm) : Bool := match a with
  | .name x => decide (k = some x)
  | _ => false
def loud (j : Nat) (w : Wo) : Wo := if w = some .quiet ∧ ([17, 24, 25, 23] : List Nat).contains j = true then some .free else w
def usesT : Pt → Option Nm → Bool
  | .un u a, k => decide (u = .drop) && isNm a k
  | .bi o a _, k => decide (o = .go) && isNm a k
  | _, _ => false
/-- a part's word by those of the parts within -/
def wordOf (t : Pt) (k : Option Nm) (ws : List Wo) : Wo := match t, ws with
  | .num _, _ => some .quiet
  | .name x, _ => if k = some x then none else some .quiet
  | .fault, _ => some .quiet
  | .un u a, [w] => if usesT (.un u a) k then some .used else loud u.ix w
  | .bi o a b, [v, w] => if usesT (.bi o a b) k then (if w = some .quiet then some .used else none) else loud o.ix (behindQ v w)
  | .ite _ _ _, [u, v, w] => behindQ u (eitherQ v w)
  | .letp _ _ _, [v, w] => behindQ v w
  | .fnp _ _, [w] => if w = some .quiet ∨ w = some .free then some .quiet else none
  | .cat _ _ _ _, [v, w] => if w = some .quiet ∨ w = some .free then behindQ (if v = some .quiet then some .free else v) (some .free) else none
  | _, _ => none
def kk (x : Nm) (k : Option Nm) : Option Nm := if k = some x then none else k
def wordT : Pt → Option Nm → Wo
  | .num i, k => wordOf (.num i) k []
  | .name x, k => wordOf (.name x) k []
  | .fault, k => wordOf .fault k []
  | .un u a, k => wordOf (.un u a) k [wordT a k]
  | .bi o a b, k => wordOf (.bi o a b) k [wordT a k, wordT b k]
  | .ite a b c, k => wordOf (.ite a b c) k [wordT a k, wordT b k, wordT c k]
  | .letp x a b, k => wordOf (.letp x a b) k [wordT a k, wordT b (kk x k)]
  | .fnp x a, k => wordOf (.fnp x a) k [wordT a (kk x k)]
  | .cat a x y b, k => wordOf (.cat a x y b) k [wordT a k, wordT b (kk x (kk y k))]
def wordsT : Pt → Option Nm → List Wo
  | .num _, _ => []
  | .name _, _ => []
  | .fault, _ => []
  | .un _ a, k => [wordT a k]
  | .bi _ a b, k => [wordT a k, wordT b k]
  | .ite a b c, k => [wordT a k, wordT b k, wordT c k]
  | .letp x a b, k => [wordT a k, wordT b (kk x k)]
  | .fnp x a, k => [wordT a (kk x k)]
  | .cat a x y b, k => [wordT a k, wordT b (kk x (kk y k))]
theorem wordT_eq (t : Pt) (k : Option Nm) : wordT t k = wordOf t k (wordsT t k) := by cases t <;> rfl
def papT : Pt → Option Nm → W
  | .num i, k => .tup [wdW (wordT (.num i) k), .tup []]
  | .name x, k => .tup [wdW (wordT (.name x) k), .tup []]
  | .fault, k => .tup [wdW (wordT .fault k), .tup []]
  | .un u a, k => .tup [wdW (wordT (.un u a) k), .tup [papT a k]]
  | .bi o a b, k => .tup [wdW (wordT (.bi o a b) k), .tup [papT a k, papT b k]]
  | .ite a b c, k => .tup [wdW (wordT (.ite a b c) k), .tup [papT a k, papT b k, papT c k]]
  | .letp x a b, k => .tup [wdW (wordT (.letp x a b) k), .tup [papT a k, papT b (kk x k)]]
  | .fnp x a, k => .tup [wdW (wordT (.fnp x a) k), .tup [papT a (kk x k)]]
  | .cat a x y b, k => .tup [wdW (wordT (.cat a x y b) k), .tup [papT a k, papT b (kk x (kk y k))]]
def papsT : Pt → Option Nm → List W
  | .num _, _ => []
  | .name _, _ => []
  | .fault, _ => []
  | .un _ a, k => [papT a k]
  | .bi _ a b, k => [papT a k, papT b k]
  | .ite a b c, k => [papT a k, papT b k, papT c k]
  | .letp x a b, k => [papT a k, papT b (kk x k)]
  | .fnp x a, k => [papT a (kk x k)]
  | .cat a x y b, k => [papT a k, papT b (kk x (kk y k))]
theorem papT_eq (t : Pt) (k : Option Nm) : papT t k = .tup [wdW (wordT t k), .tup (papsT t k)] := by cases t <;> rfl
section
variable {st : Store}
@[simp] theorem pap_ix0 {t : Pt} {k : Option Nm} : ixW (papT t k) (.int 0) st = .ok (wdW (wordT t k)) st := by rw [papT_eq]; simp
@[simp] theorem pap_ix1 {t : Pt} {k : Option Nm} : ixW (papT t k) (.int 1) st = .ok (.tup (papsT t k)) st := by rw [papT_eq]; simp
@[simp] theorem isNil_wd {a : Wo} : isNil (wdW a) = decide (a = none) := by rcases a with _ | _ | _ | _ <;> rfl
@[simp] theorem eq_wd39 {a : Wo} : cop .eq (wdW a) (sW 39) st = .ok (.bl (decide (a = some .quiet))) st := by rcases a with _ | _ | _ | _ <;> simp [wdW, eq_non_str]
@[simp] theorem eq_wd41 {a : Wo} : cop .eq (wdW a) (sW 41) st = .ok (.bl (decide (a = some .used))) st := by rcases a with _ | _ | _ | _ <;> simp [wdW, eq_non_str]
@[simp] theorem in_wd {a : Wo} : cop .isin (wdW a) (.tup [sW 39, sW 40]) st = .ok (.bl (decide (a = some .quiet) || decide (a = some .free))) st := by
  rcases a with _ | _ | _ | _
  · simp [wdW, cop, isin, inF, flatW, eqF, orB]
  · simpa [wdW] using in_sw (st := st) (i := 39) (l := [39, 40]) (by decide) (by decide)
  · simpa [wdW] using in_sw (st := st) (i := 40) (l := [39, 40]) (by decide) (by decide)
  · simpa [wdW] using in_sw (st := st) (i := 41) (l := [39, 40]) (by decide) (by decide)
@[simp] theorem in_loud {i : Nat} (hi : i < 68) : cop .isin (sW i) (.tup [sW 17, sW 24, sW 25, sW 23]) st = .ok (.bl (([17, 24, 25, 23] : List Nat).contains i)) st := in_sw (l := [17, 24, 25, 23]) hi (by decide)
@[simp] theorem in_god {i : Nat} (hi : i < 68) : cop .isin (sW i) (.tup [sW 24, sW 25]) st = .ok (.bl (([24, 25] : List Nat).contains i)) st := in_sw (l := [24, 25]) hi (by decide)
@[simp] theorem eq_kW {x : Nm} {k : Option Nm} : cop .eq (sW x.val) (kW k) st = .ok (.bl (decide (k = some x))) st := by
  cases k with
  | none => simp [kW, eq_str_non]
  | some y =>
    simp only [kW]
    rw [eq_sw (nm_lt x) (nm_lt y)]
    by_cases h : y = x
    · simp [h]
    · have : ¬ x.val = y.val := fun e => h (Fin.val_inj.mp e.symm)
      simp [h, this]
@[simp] theorem in_kW {x y : Nm} {k : Option Nm} : cop .isin (kW k) (.tup [sW x.val, sW y.val]) st = .ok (.bl (decide (k = some x) || decide (k = some y))) st := by
  cases k with
  | none => simp [kW, cop, isin, inF, flatW, eqF, orB]
  | some z =>
    have := in_sw (st := st) (i := z.val) (l := [x.val, y.val]) (nm_lt z) (by simp)
    simp only [List.map_cons, List.map_nil] at this
    simp only [kW, this]
    congr 2
    by_cases h : z = x
    · simp [h]
    · by_cases h2 : z = y
      · simp [h2]
      · have e1 : ¬ z.val = x.val := fun e => h (Fin.val_inj.mp e)
        have e2 : ¬ z.val = y.val := fun e => h2 (Fin.val_inj.mp e)
        simp [h, h2, e1, e2]
@[simp] theorem cnd_kk {x : Nm} {k : Option Nm} : cnd (decide (k = some x)) (fun _ => R.ok W.non st) (fun _ => R.ok (kW k) st) = .ok (kW (kk x k)) st := by
  by_cases h : k = some x <;> simp [h, kk, kW]
@[simp] theorem cnd_kk2 {x y : Nm} {k : Option Nm} : cnd (decide (k = some x) || decide (k = some y)) (fun _ => R.ok W.non st) (fun _ => R.ok (kW k) st) = .ok (kW (kk x (kk y k))) st := by
  have e0 : kk x none = none := by simp [kk]
  by_cases h : k = some y
  · subst h
    have e1 : kk y (some y) = none := by simp [kk]
    rw [e1, e0]
    simp [kW]
  · have e1 : kk y k = k := by simp [kk, h]
    rw [e1]
    by_cases h2 : k = some x <;> simp [h, h2, kk, kW]
end
section
variable {P : Prog} (H : HasN5 P) {k : Nat} {st : Store}
include H
theorem behind_eq (hk : 0 < k) (a b : Wo) : callF P k ("behind", none) [wdW a, wdW b] st = .ok (wdW (behindQ a b)) st := by
  obtain ⟨j, rfl⟩ : ∃ j, k = j + 1 := ⟨k - 1, by omega⟩
  rw [call_fin H.behind rfl]
  rcases a with _ | _ | _ | _ <;> rcases b with _ | _ | _ | _ <;> simp [c_behind, H.QUIET, H.USED, behindQ] <;> rfl
theorem either_eq (hk : 0 < k) (a b : Wo) : callF P k ("either", none) [wdW a, wdW b] st = .ok (wdW (eitherQ a b)) st := by
  obtain ⟨j, rfl⟩ : ∃ j, k = j + 1 := ⟨k - 1, by omega⟩
  rw [call_fin H.either rfl]
  have e : allStrs [sW 39, sW 40, sW 41] = some [sw 39, sw 40, sw 41] := rfl
  have g0 : ∀ st, gixR P "ORDER" (wdW (some .quiet)) st = .ok (.int 0) st := fun st => by
    simp only [gixR, H.ORDER, wdW, e, show idx8 (sw 39) [sw 39, sw 40, sw 41] = some 0 by decide +kernel]; rfl
  have g1 : ∀ st, gixR P "ORDER" (wdW (some .free)) st = .ok (.int 1) st := fun st => by
    simp only [gixR, H.ORDER, wdW, e, show idx8 (sw 40) [sw 39, sw 40, sw 41] = some 1 by decide +kernel]; rfl
  have g2 : ∀ st, gixR P "ORDER" (wdW (some .used)) st = .ok (.int 2) st := fun st => by
    simp only [gixR, H.ORDER, wdW, e, show idx8 (sw 41) [sw 39, sw 40, sw 41] = some 2 by decide +kernel]; rfl
  rcases a with _ | _ | _ | _ <;> rcases b with _ | _ | _ | _ <;> simp [c_either, H.ORDER, eitherQ, g0, g1, g2] <;> rfl
theorem uses_eq (hk : 0 < k) (t : Pt) (n : Nat) (r : Option Nm) : callF P k ("uses", none) [numT t n, kW r] st = .ok (.bl (usesT t r)) st := by
  obtain ⟨j, rfl⟩ : ∃ j, k = j + 1 := ⟨k - 1, by omega⟩
  rw [call_fin H.uses rfl]
  cases t with
  | un u a => cases u <;> cases a <;> simp [c_uses, numT, usesT, isNm]
  | bi o a b => cases o <;> cases a <;> simp [c_uses, numT, usesT, isNm]
  | _ => simp [c_uses, numT, usesT]
/-- the parts within, numbered, each with the rest's name there -/
def innT : Pt → Nat → Option Nm → List W
  | .num _, _, _ => []
  | .name _, _, _ => []
  | .fault, _, _ => []
  | .un _ a, n, k => [.tup [numT a (n + 1), kW k]]
  | .bi _ a b, n, k => [.tup [numT a (n + 1), kW k], .tup [numT b (n + 1 + size a), kW k]]
  | .ite a b c, n, k => [.tup [numT a (n + 1), kW k], .tup [numT b (n + 1 + size a), kW k], .tup [numT c (n + 1 + size a + size b), kW k]]
  | .letp x a b, n, k => [.tup [numT a (n + 1), kW k], .tup [numT b (n + 1 + size a), kW (kk x k)]]
  | .fnp x a, n, k => [.tup [numT a (n + 1), kW (kk x k)]]
  | .cat a x y b, n, k => [.tup [numT a (n + 1), kW k], .tup [numT b (n + 1 + size a), kW (kk x (kk y k))]]
theorem inner_of_is (hk : 0 < k) (t : Pt) (n : Nat) (r : Option Nm) : Is (callF P k ("inner_of", none) [numT t n, kW r] st) fun w st' => w = .ref st.length ∧ st' = st ++ [.lst (innT t n r)] := by
  refine call_is H.inner_of hk rfl fun Q hQ => ?_
  cases t <;> simp [c_inner_of, numT] <;> exact .k (hQ _ _ ⟨rfl, rfl⟩)
end
end PL


set_option linter.all false
set_option maxRecDepth 100000
set_option autoImplicit false
namespace PL
open MP
open PySem (Str)
section
variable {st : Store}
theorem sl1_ref {p : Nat} {w : W} {r : List W} (h : st[p]? = some (.lst (w :: r))) : slW (.ref p) (some 1) none st = .ok (.ref st.length) (st ++ [.lst r]) := by
  simp [slW, h, cut, sIx]
theorem in_nq0 : cop .isin (.ref st.length) (.tup [.ref (st.length + 1), .ref (st.length + 2)]) (st ++ [.lst [], .lst [], .lst [sW 39]]) = .ok (.bl true) (st ++ [.lst [], .lst [], .lst [sW 39]]) := by
  have h0 := get_app0 (st := st) (o := .lst []) (l := [.lst [], .lst [sW 39]])
  have h1 := get_app1 (st := st) (a := .lst []) (o := .lst []) (l := [.lst [sW 39]])
  have h2 := get_app2 (st := st) (a := .lst []) (b := .lst []) (o := .lst [sW 39]) (l := [])
  generalize st ++ [SO.lst [], SO.lst [], SO.lst [sW 39]] = s at *
  simp [cop, isin, inF, flatW, orB, inD, toD, mapO, h0, h1, h2, toD_str (okS_sw 39), D.eqv, D.eqvs]
theorem in_nq1 {a : Wo} : cop .isin (.ref st.length) (.tup [.ref (st.length + 1), .ref (st.length + 2)]) (st ++ [.lst [wdW a], .lst [], .lst [sW 39]]) = .ok (.bl (decide (a = some .quiet))) (st ++ [.lst [wdW a], .lst [], .lst [sW 39]]) := by
  have h0 := get_app0 (st := st) (o := .lst [wdW a]) (l := [.lst [], .lst [sW 39]])
  have h1 := get_app1 (st := st) (a := .lst [wdW a]) (o := .lst []) (l := [.lst [sW 39]])
  have h2 := get_app2 (st := st) (a := .lst [wdW a]) (b := .lst []) (o := .lst [sW 39]) (l := [])
  generalize st ++ [SO.lst [wdW a], SO.lst [], SO.lst [sW 39]] = s at *
  have hs : ∀ i n, toD s n (sW i) = some (.str (sw i)) := fun i n => toD_str (okS_sw i)
  have hb : ∀ i j, i < 68 → j < 68 → (sw i == sw j) = decide (i = j) := fun i j hi hj => sw_beq hi hj
  rcases a with _ | _ | _ | _ <;> simp [wdW, cop, isin, inF, flatW, orB, inD, toD, mapO, h0, h1, h2, hs, D.eqv, D.eqvs, hb] at *
  all_goals simp [h0, hs, D.eqv, D.eqvs, hb]
end
section
variable {P : Prog} (H : HasN5 P) {k : Nat} {st : Store}
include H
theorem word_of_is (hk : 1 < k) (t : Pt) (n : Nat) (r : Option Nm) {p : Nat} (hp : st[p]? = some (.lst ((wordsT t r).map wdW))) :
    Is (callF P k ("word_of", none) [numT t n, kW r, .ref p] st) fun w st' => w = wdW (wordT t r) ∧ Fr [] st st' := by
  refine call_is H.word_of (by omega) rfl fun Q hQ => ?_
  have hu := fun t n r st => uses_eq H (k := k - 1) (st := st) (by omega) t n r
  have hb := fun a b st => behind_eq H (k := k - 1) (st := st) (by omega) a b
  have hb' := fun b st => behind_eq H (k := k - 1) (st := st) (by omega) (some .quiet) b
  have he := fun a b st => either_eq H (k := k - 1) (st := st) (by omega) a b
  have done : ∀ st', Fr [] st st' → Is (R.ok (wdW (wordT t r)) st') Q := fun st' F => .k (hQ _ _ ⟨rfl, F⟩)
  have bq : ∀ b, behindQ (some .quiet) b = b := fun b => by rcases b with _ | _ | _ | _ <;> rfl
  have hbq : ∀ b st, callF P (k - 1) ("behind", none) [sW 39, wdW b] st = .ok (wdW b) st := fun b st => by
    have := hb (some .quiet) b st
    rw [bq] at this
    exact this
  have hbf : ∀ a st, callF P (k - 1) ("behind", none) [wdW a, sW 40] st = .ok (wdW (behindQ a (some .free))) st := fun a st => hb a (some .free) st
  have hbff : ∀ st, callF P (k - 1) ("behind", none) [sW 40, sW 40] st = .ok (sW 40) st := fun st => hb (some .free) (some .free) st
  have hu' := hu t n r
  cases t with
  | num i =>
    simp only [numT] at hu'
    simp [c_word_of, numT, hu', usesT, H.QUIET, walk_ref hp, wordsT, holds_one (by simpa [wordsT] using hp), H.LOUD]
    exact done _ Fr.refl
  | name x =>
    simp [c_word_of, numT, H.QUIET]
    by_cases h : r = some x
    · simp [h]
      have := done st Fr.refl
      simpa [wordT, wordOf, h, wdW] using this
    · simp [h]
      have := done st Fr.refl
      simpa [wordT, wordOf, h, wdW] using this
  | fault =>
    simp only [numT] at hu'
    simp [c_word_of, numT, hu', usesT, H.QUIET, walk_ref hp, wordsT, holds_one (by simpa [wordsT] using hp), H.LOUD]
    exact done _ Fr.refl
  | un u a =>
    simp only [numT] at hu'
    simp [wordsT] at hp
    cases hx : usesT (.un u a) r with
    | true =>
      simp [c_word_of, numT, hu', hx, sl1_ref hp, H.QUIET, H.USED, in_nq0]
      have := done (st ++ [.lst [], .lst [], .lst [sW 39]]) Fr.app
      simpa [wordT, wordOf, hx, wdW] using this
    | false =>
      simp [c_word_of, numT, hu', hx, H.QUIET, walk_ref hp, holds_one hp, H.LOUD, hbq]
      have := done st Fr.refl
      simp only [wordT, wordOf, hx, loud] at this
      by_cases hq : wordT a r = some .quiet
      · cases u <;> simp [hq, wdW, H.FREE] at this ⊢ <;> exact this
      · simp [hq] at this ⊢
        exact this
  | bi o a b =>
    simp only [numT] at hu'
    simp [wordsT] at hp
    cases hx : usesT (.bi o a b) r with
    | true =>
      simp [c_word_of, numT, hu', hx, sl1_ref hp, H.QUIET, H.USED, in_nq1]
      have := done (st ++ [.lst [wdW (wordT b r)], .lst [], .lst [sW 39]]) Fr.app
      simp only [wordT, wordOf, hx] at this
      by_cases hq : wordT b r = some .quiet <;> simp [hq, wdW] at this ⊢ <;> exact this
    | false =>
      simp [c_word_of, numT, hu', hx, H.QUIET, walk_ref hp, holds_one hp, H.LOUD, hbq, hb]
      have := done st Fr.refl
      simp only [wordT, wordOf, hx, loud] at this
      by_cases hq : behindQ (wordT a r) (wordT b r) = some .quiet
      · cases o <;> simp [hq, wdW, H.FREE] at this ⊢ <;> exact this
      · simp [hq] at this ⊢
        exact this
  | ite a b c =>
    simp only [numT] at hu'
    simp [wordsT] at hp
    simp [c_word_of, numT, hu', usesT, ix_lst hp, hb, he]
    have := done st Fr.refl
    simpa only [wordT, wordOf] using this
  | letp x a b =>
    simp only [numT] at hu'
    simp [wordsT] at hp
    simp [c_word_of, numT, hu', usesT, H.QUIET, walk_ref hp, holds_one hp, H.LOUD, hbq, hb]
    have := done st Fr.refl
    simp only [wordT, wordOf] at this
    by_cases hq : behindQ (wordT a r) (wordT b (kk x r)) = some .quiet <;> simp [hq] at this ⊢ <;> exact this
  | fnp x a =>
    simp only [numT] at hu'
    simp [wordsT] at hp
    simp [c_word_of, numT, hu', usesT, ix_lst hp, H.QUIET, H.FREE]
    have := done st Fr.refl
    simp only [wordT, wordOf] at this
    by_cases h1 : wordT a (kk x r) = some .quiet
    · simp [h1, wdW] at this ⊢
      exact this
    · by_cases h2 : wordT a (kk x r) = some .free
      · simp [h1, h2, wdW] at this ⊢
        exact this
      · simp [h1, h2, wdW] at this ⊢
        exact this
  | cat a x y b =>
    simp only [numT] at hu'
    simp [wordsT] at hp
    simp [c_word_of, numT, hu', usesT, ix_lst hp, H.QUIET, H.FREE]
    have := done st Fr.refl
    simp only [wordT, wordOf] at this
    by_cases h0 : wordT a r = some .quiet
    · by_cases h1 : wordT b (kk x (kk y r)) = some .quiet
      · simp [h0, h1, wdW, hbff] at this ⊢
        exact this
      · by_cases h2 : wordT b (kk x (kk y r)) = some .free
        · simp [h0, h1, h2, wdW, hbff] at this ⊢
          exact this
        · simp [h0, h1, h2, wdW, hbff] at this ⊢
          exact this
    · by_cases h1 : wordT b (kk x (kk y r)) = some .quiet
      · simp [h0, h1, hbf] at this ⊢
        exact this
      · by_cases h2 : wordT b (kk x (kk y r)) = some .free
        · simp [h0, h1, h2, hbf] at this ⊢
          exact this
        · simp [h0, h1, h2, wdW, hbf] at this ⊢
          exact this
end
end PL


set_option linter.all false
set_option maxRecDepth 100000
set_option autoImplicit false
/-! N7: papers and shows. -/
namespace PL
open MP
open PySem (Str)
structure HasN7 (P : Prog) : Prop extends HasN5 P where
  is_paper : P.fn ("is_paper", none) = some c_is_paper
  shows_it : P.fn ("shows_it", none) = some c_shows_it
  papers : P.fn ("papers", none) = some c_papers
  shows_ : P.fn ("shows", none) = some c_shows
section
variable {st : Store}
@[simp] theorem isi_pap {t : Pt} {k : Option Nm} : isiW (papT t k) .tuple st = some true := by rw [papT_eq]; rfl
@[simp] theorem len_pap {t : Pt} {k : Option Nm} : bltW .len [papT t k] st = .ok (.int 2) st := by rw [papT_eq]; rfl
@[simp] theorem eq_wd_self {a : Wo} : cop .eq (wdW a) (wdW a) st = .ok (.bl true) st := by rcases a with _ | _ | _ | _ <;> simp [wdW]
end
section
variable {P : Prog} (H : HasN7 P) {k : Nat} {st : Store}
include H
theorem paper_of_is (t : Pt) : ∀ (k : Nat) (st : Store) (n : Nat) (r : Option Nm), deep t + 3 ≤ k → Is (callF P k ("paper_of", none) [numT t n, kW r] st) fun w st' => w = papT t r ∧ Fr [] st st' := by
  induction t with
  | num i =>
    intro k st n r hk
    simp [deep] at hk
    refine call_is H.paper_of (by omega) rfl fun Q hQ => ?_
    simp [c_paper_of]
    refine (inner_of_is (k := k - 1) H.toHasN5 (by omega) (.num i) n r).bnd ?_
    rintro _ _ ⟨rfl, rfl⟩
    have h := get_app0 (st := st) (o := .lst (innT (.num i) n r)) (l := [])
    have F : Fr [] st (st ++ [.lst (innT (.num i) n r)]) := Fr.app
    generalize st ++ [SO.lst (innT (.num i) n r)] = s at *
    simp [innT] at h
    simp [walk_ref h, holds_one h]
    have F3 : Fr [] st (_ ++ [SO.lst (papsT (.num i) r), SO.lst ((wordsT (.num i) r).map wdW)]) := F.trans Fr.app
    have hp := get_app0 (st := s) (o := .lst (papsT (.num i) r)) (l := [.lst ((wordsT (.num i) r).map wdW)])
    have hw := get_app1 (st := s) (a := .lst (papsT (.num i) r)) (o := .lst ((wordsT (.num i) r).map wdW)) (l := [])
    refine (word_of_is (k := k - 1) H.toHasN5 (by omega) (.num i) n r hw).bnd ?_
    rintro _ s4 ⟨rfl, F4⟩
    try simp
    rw [tuple_ref (F4.get (by simp) hp)]
    try simp
    exact .k (hQ _ _ ⟨(papT_eq _ _).symm, F3.trans F4⟩)
  | name x =>
    intro k st n r hk
    simp [deep] at hk
    refine call_is H.paper_of (by omega) rfl fun Q hQ => ?_
    simp [c_paper_of]
    refine (inner_of_is (k := k - 1) H.toHasN5 (by omega) (.name x) n r).bnd ?_
    rintro _ _ ⟨rfl, rfl⟩
    have h := get_app0 (st := st) (o := .lst (innT (.name x) n r)) (l := [])
    have F : Fr [] st (st ++ [.lst (innT (.name x) n r)]) := Fr.app
    generalize st ++ [SO.lst (innT (.name x) n r)] = s at *
    simp [innT] at h
    simp [walk_ref h, holds_one h]
    have F3 : Fr [] st (_ ++ [SO.lst (papsT (.name x) r), SO.lst ((wordsT (.name x) r).map wdW)]) := F.trans Fr.app
    have hp := get_app0 (st := s) (o := .lst (papsT (.name x) r)) (l := [.lst ((wordsT (.name x) r).map wdW)])
    have hw := get_app1 (st := s) (a := .lst (papsT (.name x) r)) (o := .lst ((wordsT (.name x) r).map wdW)) (l := [])
    refine (word_of_is (k := k - 1) H.toHasN5 (by omega) (.name x) n r hw).bnd ?_
    rintro _ s4 ⟨rfl, F4⟩
    try simp
    rw [tuple_ref (F4.get (by simp) hp)]
    try simp
    exact .k (hQ _ _ ⟨(papT_eq _ _).symm, F3.trans F4⟩)
  | fault  =>
    intro k st n r hk
    simp [deep] at hk
    refine call_is H.paper_of (by omega) rfl fun Q hQ => ?_
    simp [c_paper_of]
    refine (inner_of_is (k := k - 1) H.toHasN5 (by omega) .fault n r).bnd ?_
    rintro _ _ ⟨rfl, rfl⟩
    have h := get_app0 (st := st) (o := .lst (innT .fault n r)) (l := [])
    have F : Fr [] st (st ++ [.lst (innT .fault n r)]) := Fr.app
    generalize st ++ [SO.lst (innT .fault n r)] = s at *
    simp [innT] at h
    simp [walk_ref h, holds_one h]
    have F3 : Fr [] st (_ ++ [SO.lst (papsT .fault r), SO.lst ((wordsT .fault r).map wdW)]) := F.trans Fr.app
    have hp := get_app0 (st := s) (o := .lst (papsT .fault r)) (l := [.lst ((wordsT .fault r).map wdW)])
    have hw := get_app1 (st := s) (a := .lst (papsT .fault r)) (o := .lst ((wordsT .fault r).map wdW)) (l := [])
    refine (word_of_is (k := k - 1) H.toHasN5 (by omega) .fault n r hw).bnd ?_
    rintro _ s4 ⟨rfl, F4⟩
    try simp
    rw [tuple_ref (F4.get (by simp) hp)]
    try simp
    exact .k (hQ _ _ ⟨(papT_eq _ _).symm, F3.trans F4⟩)
  | un u a ia =>
    intro k st n r hk
    simp [deep] at hk
    refine call_is H.paper_of (by omega) rfl fun Q hQ => ?_
    simp [c_paper_of]
    refine (inner_of_is (k := k - 1) H.toHasN5 (by omega) (.un u a) n r).bnd ?_
    rintro _ _ ⟨rfl, rfl⟩
    have h := get_app0 (st := st) (o := .lst (innT (.un u a) n r)) (l := [])
    have F : Fr [] st (st ++ [.lst (innT (.un u a) n r)]) := Fr.app
    generalize st ++ [SO.lst (innT (.un u a) n r)] = s at *
    simp [innT] at h
    simp [walk_ref h, holds_one h]
    refine (ia _ _ _ _ (by omega)).bnd ?_
    rintro _ s2 ⟨rfl, F2⟩
    replace h := F2.get (by simp) h
    replace F := F.trans F2
    clear F2
    simp [holds_one h]
    have F3 : Fr [] st (_ ++ [SO.lst (papsT (.un u a) r), SO.lst ((wordsT (.un u a) r).map wdW)]) := F.trans Fr.app
    have hp := get_app0 (st := s2) (o := .lst (papsT (.un u a) r)) (l := [.lst ((wordsT (.un u a) r).map wdW)])
    have hw := get_app1 (st := s2) (a := .lst (papsT (.un u a) r)) (o := .lst ((wordsT (.un u a) r).map wdW)) (l := [])
    refine (word_of_is (k := k - 1) H.toHasN5 (by omega) (.un u a) n r hw).bnd ?_
    rintro _ s4 ⟨rfl, F4⟩
    try simp
    rw [tuple_ref (F4.get (by simp) hp)]
    try simp
    exact .k (hQ _ _ ⟨(papT_eq _ _).symm, F3.trans F4⟩)
  | bi o a b ia ib =>
    intro k st n r hk
    simp [deep] at hk
    refine call_is H.paper_of (by omega) rfl fun Q hQ => ?_
    simp [c_paper_of]
    refine (inner_of_is (k := k - 1) H.toHasN5 (by omega) (.bi o a b) n r).bnd ?_
    rintro _ _ ⟨rfl, rfl⟩
    have h := get_app0 (st := st) (o := .lst (innT (.bi o a b) n r)) (l := [])
    have F : Fr [] st (st ++ [.lst (innT (.bi o a b) n r)]) := Fr.app
    generalize st ++ [SO.lst (innT (.bi o a b) n r)] = s at *
    simp [innT] at h
    simp [walk_ref h, holds_one h]
    refine (ia _ _ _ _ (by omega)).bnd ?_
    rintro _ s2 ⟨rfl, F2⟩
    replace h := F2.get (by simp) h
    replace F := F.trans F2
    clear F2
    simp [holds_one h]
    refine (ib _ _ _ _ (by omega)).bnd ?_
    rintro _ s2 ⟨rfl, F2⟩
    replace h := F2.get (by simp) h
    replace F := F.trans F2
    clear F2
    simp [holds_one h]
    have F3 : Fr [] st (_ ++ [SO.lst (papsT (.bi o a b) r), SO.lst ((wordsT (.bi o a b) r).map wdW)]) := F.trans Fr.app
    have hp := get_app0 (st := s2) (o := .lst (papsT (.bi o a b) r)) (l := [.lst ((wordsT (.bi o a b) r).map wdW)])
    have hw := get_app1 (st := s2) (a := .lst (papsT (.bi o a b) r)) (o := .lst ((wordsT (.bi o a b) r).map wdW)) (l := [])
    refine (word_of_is (k := k - 1) H.toHasN5 (by omega) (.bi o a b) n r hw).bnd ?_
    rintro _ s4 ⟨rfl, F4⟩
    try simp
    rw [tuple_ref (F4.get (by simp) hp)]
    try simp
    exact .k (hQ _ _ ⟨(papT_eq _ _).symm, F3.trans F4⟩)
  | ite a b d ia ib ic =>
    intro k st n r hk
    simp [deep] at hk
    refine call_is H.paper_of (by omega) rfl fun Q hQ => ?_
    simp [c_paper_of]
    refine (inner_of_is (k := k - 1) H.toHasN5 (by omega) (.ite a b d) n r).bnd ?_
    rintro _ _ ⟨rfl, rfl⟩
    have h := get_app0 (st := st) (o := .lst (innT (.ite a b d) n r)) (l := [])
    have F : Fr [] st (st ++ [.lst (innT (.ite a b d) n r)]) := Fr.app
    generalize st ++ [SO.lst (innT (.ite a b d) n r)] = s at *
    simp [innT] at h
    simp [walk_ref h, holds_one h]
    refine (ia _ _ _ _ (by omega)).bnd ?_
    rintro _ s2 ⟨rfl, F2⟩
    replace h := F2.get (by simp) h
    replace F := F.trans F2
    clear F2
    simp [holds_one h]
    refine (ib _ _ _ _ (by omega)).bnd ?_
    rintro _ s2 ⟨rfl, F2⟩
    replace h := F2.get (by simp) h
    replace F := F.trans F2
    clear F2
    simp [holds_one h]
    refine (ic _ _ _ _ (by omega)).bnd ?_
    rintro _ s2 ⟨rfl, F2⟩
    replace h := F2.get (by simp) h
    replace F := F.trans F2
    clear F2
    simp [holds_one h]
    have F3 : Fr [] st (_ ++ [SO.lst (papsT (.ite a b d) r), SO.lst ((wordsT (.ite a b d) r).map wdW)]) := F.trans Fr.app
    have hp := get_app0 (st := s2) (o := .lst (papsT (.ite a b d) r)) (l := [.lst ((wordsT (.ite a b d) r).map wdW)])
    have hw := get_app1 (st := s2) (a := .lst (papsT (.ite a b d) r)) (o := .lst ((wordsT (.ite a b d) r).map wdW)) (l := [])
    refine (word_of_is (k := k - 1) H.toHasN5 (by omega) (.ite a b d) n r hw).bnd ?_
    rintro _ s4 ⟨rfl, F4⟩
    try simp
    rw [tuple_ref (F4.get (by simp) hp)]
    try simp
    exact .k (hQ _ _ ⟨(papT_eq _ _).symm, F3.trans F4⟩)
  | letp x a b ia ib =>
    intro k st n r hk
    simp [deep] at hk
    refine call_is H.paper_of (by omega) rfl fun Q hQ => ?_
    simp [c_paper_of]
    refine (inner_of_is (k := k - 1) H.toHasN5 (by omega) (.letp x a b) n r).bnd ?_
    rintro _ _ ⟨rfl, rfl⟩
    have h := get_app0 (st := st) (o := .lst (innT (.letp x a b) n r)) (l := [])
    have F : Fr [] st (st ++ [.lst (innT (.letp x a b) n r)]) := Fr.app
    generalize st ++ [SO.lst (innT (.letp x a b) n r)] = s at *
    simp [innT] at h
    simp [walk_ref h, holds_one h]
    refine (ia _ _ _ _ (by omega)).bnd ?_
    rintro _ s2 ⟨rfl, F2⟩
    replace h := F2.get (by simp) h
    replace F := F.trans F2
    clear F2
    simp [holds_one h]
    refine (ib _ _ _ _ (by omega)).bnd ?_
    rintro _ s2 ⟨rfl, F2⟩
    replace h := F2.get (by simp) h
    replace F := F.trans F2
    clear F2
    simp [holds_one h]
    have F3 : Fr [] st (_ ++ [SO.lst (papsT (.letp x a b) r), SO.lst ((wordsT (.letp x a b) r).map wdW)]) := F.trans Fr.app
    have hp := get_app0 (st := s2) (o := .lst (papsT (.letp x a b) r)) (l := [.lst ((wordsT (.letp x a b) r).map wdW)])
    have hw := get_app1 (st := s2) (a := .lst (papsT (.letp x a b) r)) (o := .lst ((wordsT (.letp x a b) r).map wdW)) (l := [])
    refine (word_of_is (k := k - 1) H.toHasN5 (by omega) (.letp x a b) n r hw).bnd ?_
    rintro _ s4 ⟨rfl, F4⟩
    try simp
    rw [tuple_ref (F4.get (by simp) hp)]
    try simp
    exact .k (hQ _ _ ⟨(papT_eq _ _).symm, F3.trans F4⟩)
  | fnp x a ia =>
    intro k st n r hk
    simp [deep] at hk
    refine call_is H.paper_of (by omega) rfl fun Q hQ => ?_
    simp [c_paper_of]
    refine (inner_of_is (k := k - 1) H.toHasN5 (by omega) (.fnp x a) n r).bnd ?_
    rintro _ _ ⟨rfl, rfl⟩
    have h := get_app0 (st := st) (o := .lst (innT (.fnp x a) n r)) (l := [])
    have F : Fr [] st (st ++ [.lst (innT (.fnp x a) n r)]) := Fr.app
    generalize st ++ [SO.lst (innT (.fnp x a) n r)] = s at *
    simp [innT] at h
    simp [walk_ref h, holds_one h]
    refine (ia _ _ _ _ (by omega)).bnd ?_
    rintro _ s2 ⟨rfl, F2⟩
    replace h := F2.get (by simp) h
    replace F := F.trans F2
    clear F2
    simp [holds_one h]
    have F3 : Fr [] st (_ ++ [SO.lst (papsT (.fnp x a) r), SO.lst ((wordsT (.fnp x a) r).map wdW)]) := F.trans Fr.app
    have hp := get_app0 (st := s2) (o := .lst (papsT (.fnp x a) r)) (l := [.lst ((wordsT (.fnp x a) r).map wdW)])
    have hw := get_app1 (st := s2) (a := .lst (papsT (.fnp x a) r)) (o := .lst ((wordsT (.fnp x a) r).map wdW)) (l := [])
    refine (word_of_is (k := k - 1) H.toHasN5 (by omega) (.fnp x a) n r hw).bnd ?_
    rintro _ s4 ⟨rfl, F4⟩
    try simp
    rw [tuple_ref (F4.get (by simp) hp)]
    try simp
    exact .k (hQ _ _ ⟨(papT_eq _ _).symm, F3.trans F4⟩)
  | cat a x y b ia ib =>
    intro k st n r hk
    simp [deep] at hk
    refine call_is H.paper_of (by omega) rfl fun Q hQ => ?_
    simp [c_paper_of]
    refine (inner_of_is (k := k - 1) H.toHasN5 (by omega) (.cat a x y b) n r).bnd ?_
    rintro _ _ ⟨rfl, rfl⟩
    have h := get_app0 (st := st) (o := .lst (innT (.cat a x y b) n r)) (l := [])
    have F : Fr [] st (st ++ [.lst (innT (.cat a x y b) n r)]) := Fr.app
    generalize st ++ [SO.lst (innT (.cat a x y b) n r)] = s at *
    simp [innT] at h
    simp [walk_ref h, holds_one h]
    refine (ia _ _ _ _ (by omega)).bnd ?_
    rintro _ s2 ⟨rfl, F2⟩
    replace h := F2.get (by simp) h
    replace F := F.trans F2
    clear F2
    simp [holds_one h]
    refine (ib _ _ _ _ (by omega)).bnd ?_
    rintro _ s2 ⟨rfl, F2⟩
    replace h := F2.get (by simp) h
    replace F := F.trans F2
    clear F2
    simp [holds_one h]
    have F3 : Fr [] st (_ ++ [SO.lst (papsT (.cat a x y b) r), SO.lst ((wordsT (.cat a x y b) r).map wdW)]) := F.trans Fr.app
    have hp := get_app0 (st := s2) (o := .lst (papsT (.cat a x y b) r)) (l := [.lst ((wordsT (.cat a x y b) r).map wdW)])
    have hw := get_app1 (st := s2) (a := .lst (papsT (.cat a x y b) r)) (o := .lst ((wordsT (.cat a x y b) r).map wdW)) (l := [])
    refine (word_of_is (k := k - 1) H.toHasN5 (by omega) (.cat a x y b) n r hw).bnd ?_
    rintro _ s4 ⟨rfl, F4⟩
    try simp
    rw [tuple_ref (F4.get (by simp) hp)]
    try simp
    exact .k (hQ _ _ ⟨(papT_eq _ _).symm, F3.trans F4⟩)
theorem is_paper_is (t : Pt) : ∀ (k : Nat) (st : Store) (n : Nat) (r : Option Nm), deep t + 3 ≤ k → Is (callF P k ("is_paper", none) [numT t n, kW r, papT t r] st) fun w st' => w = .bl true ∧ Fr [] st st' := by
  induction t with
  | num i =>
    intro k st n r hk
    simp [deep] at hk
    refine call_is H.is_paper (by omega) rfl fun Q hQ => ?_
    simp [c_is_paper]
    refine (inner_of_is (k := k - 1) H.toHasN5 (by omega) (.num i) n r).bnd ?_
    rintro _ _ ⟨rfl, rfl⟩
    have h := get_app0 (st := st) (o := .lst (innT (.num i) n r)) (l := [])
    have F : Fr [] st (st ++ [.lst (innT (.num i) n r)]) := Fr.app
    generalize st ++ [SO.lst (innT (.num i) n r)] = s at *
    simp [innT] at h
    simp [len_ref h, papsT, ix_lst h]
    have F3 : Fr [] st (s ++ [SO.lst ((wordsT (.num i) r).map wdW)]) := F.trans Fr.app
    have hw := get_app0 (st := s) (o := .lst ((wordsT (.num i) r).map wdW)) (l := [])
    refine (word_of_is (k := k - 1) H.toHasN5 (by omega) (.num i) n r hw).bnd ?_
    rintro _ s4 ⟨rfl, F4⟩
    try simp
    exact .k (hQ _ _ ⟨rfl, F3.trans F4⟩)
  | name x =>
    intro k st n r hk
    simp [deep] at hk
    refine call_is H.is_paper (by omega) rfl fun Q hQ => ?_
    simp [c_is_paper]
    refine (inner_of_is (k := k - 1) H.toHasN5 (by omega) (.name x) n r).bnd ?_
    rintro _ _ ⟨rfl, rfl⟩
    have h := get_app0 (st := st) (o := .lst (innT (.name x) n r)) (l := [])
    have F : Fr [] st (st ++ [.lst (innT (.name x) n r)]) := Fr.app
    generalize st ++ [SO.lst (innT (.name x) n r)] = s at *
    simp [innT] at h
    simp [len_ref h, papsT, ix_lst h]
    have F3 : Fr [] st (s ++ [SO.lst ((wordsT (.name x) r).map wdW)]) := F.trans Fr.app
    have hw := get_app0 (st := s) (o := .lst ((wordsT (.name x) r).map wdW)) (l := [])
    refine (word_of_is (k := k - 1) H.toHasN5 (by omega) (.name x) n r hw).bnd ?_
    rintro _ s4 ⟨rfl, F4⟩
    try simp
    exact .k (hQ _ _ ⟨rfl, F3.trans F4⟩)
  | fault  =>
    intro k st n r hk
    simp [deep] at hk
    refine call_is H.is_paper (by omega) rfl fun Q hQ => ?_
    simp [c_is_paper]
    refine (inner_of_is (k := k - 1) H.toHasN5 (by omega) .fault n r).bnd ?_
    rintro _ _ ⟨rfl, rfl⟩
    have h := get_app0 (st := st) (o := .lst (innT .fault n r)) (l := [])
    have F : Fr [] st (st ++ [.lst (innT .fault n r)]) := Fr.app
    generalize st ++ [SO.lst (innT .fault n r)] = s at *
    simp [innT] at h
    simp [len_ref h, papsT, ix_lst h]
    have F3 : Fr [] st (s ++ [SO.lst ((wordsT .fault r).map wdW)]) := F.trans Fr.app
    have hw := get_app0 (st := s) (o := .lst ((wordsT .fault r).map wdW)) (l := [])
    refine (word_of_is (k := k - 1) H.toHasN5 (by omega) .fault n r hw).bnd ?_
    rintro _ s4 ⟨rfl, F4⟩
    try simp
    exact .k (hQ _ _ ⟨rfl, F3.trans F4⟩)
  | un u a ia =>
    intro k st n r hk
    simp [deep] at hk
    refine call_is H.is_paper (by omega) rfl fun Q hQ => ?_
    simp [c_is_paper]
    refine (inner_of_is (k := k - 1) H.toHasN5 (by omega) (.un u a) n r).bnd ?_
    rintro _ _ ⟨rfl, rfl⟩
    have h := get_app0 (st := st) (o := .lst (innT (.un u a) n r)) (l := [])
    have F : Fr [] st (st ++ [.lst (innT (.un u a) n r)]) := Fr.app
    generalize st ++ [SO.lst (innT (.un u a) n r)] = s at *
    simp [innT] at h
    simp [len_ref h, papsT, ix_lst h]
    refine (ia _ _ _ _ (by omega)).bnd ?_
    rintro _ s2 ⟨rfl, F2⟩
    replace h := F2.get (by simp) h
    replace F := F.trans F2
    clear F2
    simp [ix_lst h, papsT]
    have F3 : Fr [] st (s2 ++ [SO.lst ((wordsT (.un u a) r).map wdW)]) := F.trans Fr.app
    have hw := get_app0 (st := s2) (o := .lst ((wordsT (.un u a) r).map wdW)) (l := [])
    refine (word_of_is (k := k - 1) H.toHasN5 (by omega) (.un u a) n r hw).bnd ?_
    rintro _ s4 ⟨rfl, F4⟩
    try simp
    exact .k (hQ _ _ ⟨rfl, F3.trans F4⟩)
  | bi o a b ia ib =>
    intro k st n r hk
    simp [deep] at hk
    refine call_is H.is_paper (by omega) rfl fun Q hQ => ?_
    simp [c_is_paper]
    refine (inner_of_is (k := k - 1) H.toHasN5 (by omega) (.bi o a b) n r).bnd ?_
    rintro _ _ ⟨rfl, rfl⟩
    have h := get_app0 (st := st) (o := .lst (innT (.bi o a b) n r)) (l := [])
    have F : Fr [] st (st ++ [.lst (innT (.bi o a b) n r)]) := Fr.app
    generalize st ++ [SO.lst (innT (.bi o a b) n r)] = s at *
    simp [innT] at h
    simp [len_ref h, papsT, ix_lst h]
    refine (ia _ _ _ _ (by omega)).bnd ?_
    rintro _ s2 ⟨rfl, F2⟩
    replace h := F2.get (by simp) h
    replace F := F.trans F2
    clear F2
    simp [ix_lst h, papsT]
    refine (ib _ _ _ _ (by omega)).bnd ?_
    rintro _ s2 ⟨rfl, F2⟩
    replace h := F2.get (by simp) h
    replace F := F.trans F2
    clear F2
    simp [ix_lst h, papsT]
    have F3 : Fr [] st (s2 ++ [SO.lst ((wordsT (.bi o a b) r).map wdW)]) := F.trans Fr.app
    have hw := get_app0 (st := s2) (o := .lst ((wordsT (.bi o a b) r).map wdW)) (l := [])
    refine (word_of_is (k := k - 1) H.toHasN5 (by omega) (.bi o a b) n r hw).bnd ?_
    rintro _ s4 ⟨rfl, F4⟩
    try simp
    exact .k (hQ _ _ ⟨rfl, F3.trans F4⟩)
  | ite a b d ia ib ic =>
    intro k st n r hk
    simp [deep] at hk
    refine call_is H.is_paper (by omega) rfl fun Q hQ => ?_
    simp [c_is_paper]
    refine (inner_of_is (k := k - 1) H.toHasN5 (by omega) (.ite a b d) n r).bnd ?_
    rintro _ _ ⟨rfl, rfl⟩
    have h := get_app0 (st := st) (o := .lst (innT (.ite a b d) n r)) (l := [])
    have F : Fr [] st (st ++ [.lst (innT (.ite a b d) n r)]) := Fr.app
    generalize st ++ [SO.lst (innT (.ite a b d) n r)] = s at *
    simp [innT] at h
    simp [len_ref h, papsT, ix_lst h]
    refine (ia _ _ _ _ (by omega)).bnd ?_
    rintro _ s2 ⟨rfl, F2⟩
    replace h := F2.get (by simp) h
    replace F := F.trans F2
    clear F2
    simp [ix_lst h, papsT]
    refine (ib _ _ _ _ (by omega)).bnd ?_
    rintro _ s2 ⟨rfl, F2⟩
    replace h := F2.get (by simp) h
    replace F := F.trans F2
    clear F2
    simp [ix_lst h, papsT]
    refine (ic _ _ _ _ (by omega)).bnd ?_
    rintro _ s2 ⟨rfl, F2⟩
    replace h := F2.get (by simp) h
    replace F := F.trans F2
    clear F2
    simp [ix_lst h, papsT]
    have F3 : Fr [] st (s2 ++ [SO.lst ((wordsT (.ite a b d) r).map wdW)]) := F.trans Fr.app
    have hw := get_app0 (st := s2) (o := .lst ((wordsT (.ite a b d) r).map wdW)) (l := [])
    refine (word_of_is (k := k - 1) H.toHasN5 (by omega) (.ite a b d) n r hw).bnd ?_
    rintro _ s4 ⟨rfl, F4⟩
    try simp
    exact .k (hQ _ _ ⟨rfl, F3.trans F4⟩)
  | letp x a b ia ib =>
    intro k st n r hk
    simp [deep] at hk
    refine call_is H.is_paper (by omega) rfl fun Q hQ => ?_
    simp [c_is_paper]
    refine (inner_of_is (k := k - 1) H.toHasN5 (by omega) (.letp x a b) n r).bnd ?_
    rintro _ _ ⟨rfl, rfl⟩
    have h := get_app0 (st := st) (o := .lst (innT (.letp x a b) n r)) (l := [])
    have F : Fr [] st (st ++ [.lst (innT (.letp x a b) n r)]) := Fr.app
    generalize st ++ [SO.lst (innT (.letp x a b) n r)] = s at *
    simp [innT] at h
    simp [len_ref h, papsT, ix_lst h]
    refine (ia _ _ _ _ (by omega)).bnd ?_
    rintro _ s2 ⟨rfl, F2⟩
    replace h := F2.get (by simp) h
    replace F := F.trans F2
    clear F2
    simp [ix_lst h, papsT]
    refine (ib _ _ _ _ (by omega)).bnd ?_
    rintro _ s2 ⟨rfl, F2⟩
    replace h := F2.get (by simp) h
    replace F := F.trans F2
    clear F2
    simp [ix_lst h, papsT]
    have F3 : Fr [] st (s2 ++ [SO.lst ((wordsT (.letp x a b) r).map wdW)]) := F.trans Fr.app
    have hw := get_app0 (st := s2) (o := .lst ((wordsT (.letp x a b) r).map wdW)) (l := [])
    refine (word_of_is (k := k - 1) H.toHasN5 (by omega) (.letp x a b) n r hw).bnd ?_
    rintro _ s4 ⟨rfl, F4⟩
    try simp
    exact .k (hQ _ _ ⟨rfl, F3.trans F4⟩)
  | fnp x a ia =>
    intro k st n r hk
    simp [deep] at hk
    refine call_is H.is_paper (by omega) rfl fun Q hQ => ?_
    simp [c_is_paper]
    refine (inner_of_is (k := k - 1) H.toHasN5 (by omega) (.fnp x a) n r).bnd ?_
    rintro _ _ ⟨rfl, rfl⟩
    have h := get_app0 (st := st) (o := .lst (innT (.fnp x a) n r)) (l := [])
    have F : Fr [] st (st ++ [.lst (innT (.fnp x a) n r)]) := Fr.app
    generalize st ++ [SO.lst (innT (.fnp x a) n r)] = s at *
    simp [innT] at h
    simp [len_ref h, papsT, ix_lst h]
    refine (ia _ _ _ _ (by omega)).bnd ?_
    rintro _ s2 ⟨rfl, F2⟩
    replace h := F2.get (by simp) h
    replace F := F.trans F2
    clear F2
    simp [ix_lst h, papsT]
    have F3 : Fr [] st (s2 ++ [SO.lst ((wordsT (.fnp x a) r).map wdW)]) := F.trans Fr.app
    have hw := get_app0 (st := s2) (o := .lst ((wordsT (.fnp x a) r).map wdW)) (l := [])
    refine (word_of_is (k := k - 1) H.toHasN5 (by omega) (.fnp x a) n r hw).bnd ?_
    rintro _ s4 ⟨rfl, F4⟩
    try simp
    exact .k (hQ _ _ ⟨rfl, F3.trans F4⟩)
  | cat a x y b ia ib =>
    intro k st n r hk
    simp [deep] at hk
    refine call_is H.is_paper (by omega) rfl fun Q hQ => ?_
    simp [c_is_paper]
    refine (inner_of_is (k := k - 1) H.toHasN5 (by omega) (.cat a x y b) n r).bnd ?_
    rintro _ _ ⟨rfl, rfl⟩
    have h := get_app0 (st := st) (o := .lst (innT (.cat a x y b) n r)) (l := [])
    have F : Fr [] st (st ++ [.lst (innT (.cat a x y b) n r)]) := Fr.app
    generalize st ++ [SO.lst (innT (.cat a x y b) n r)] = s at *
    simp [innT] at h
    simp [len_ref h, papsT, ix_lst h]
    refine (ia _ _ _ _ (by omega)).bnd ?_
    rintro _ s2 ⟨rfl, F2⟩
    replace h := F2.get (by simp) h
    replace F := F.trans F2
    clear F2
    simp [ix_lst h, papsT]
    refine (ib _ _ _ _ (by omega)).bnd ?_
    rintro _ s2 ⟨rfl, F2⟩
    replace h := F2.get (by simp) h
    replace F := F.trans F2
    clear F2
    simp [ix_lst h, papsT]
    have F3 : Fr [] st (s2 ++ [SO.lst ((wordsT (.cat a x y b) r).map wdW)]) := F.trans Fr.app
    have hw := get_app0 (st := s2) (o := .lst ((wordsT (.cat a x y b) r).map wdW)) (l := [])
    refine (word_of_is (k := k - 1) H.toHasN5 (by omega) (.cat a x y b) n r hw).bnd ?_
    rintro _ s4 ⟨rfl, F4⟩
    try simp
    exact .k (hQ _ _ ⟨rfl, F3.trans F4⟩)
end
end PL


set_option linter.all false
set_option maxRecDepth 100000
set_option autoImplicit false
/-! N8: papers(program), shows(program, number, paper). -/
namespace PL
open MP
open PySem (Str)
/-- a catch -/
structure Ct where
  a : Pt
  x : Nm
  y : Nm
  b : Pt
def Ct.t (c : Ct) : Pt := .cat c.a c.x c.y c.b
def catsT : Pt → List Ct
  | .num _ => []
  | .name _ => []
  | .fault => []
  | .un _ a => catsT a
  | .bi _ a b => catsT a ++ catsT b
  | .ite a b c => catsT a ++ catsT b ++ catsT c
  | .letp _ a b => catsT a ++ catsT b
  | .fnp _ a => catsT a
  | .cat a x y b => ⟨a, x, y, b⟩ :: (catsT a ++ catsT b)
def catsN : Pt → Nat → List (Ct × Nat)
  | .num _, _ => []
  | .name _, _ => []
  | .fault, _ => []
  | .un _ a, n => catsN a (n + 1)
  | .bi _ a b, n => catsN a (n + 1) ++ catsN b (n + 1 + size a)
  | .ite a b c, n => catsN a (n + 1) ++ catsN b (n + 1 + size a) ++ catsN c (n + 1 + size a + size b)
  | .letp _ a b, n => catsN a (n + 1) ++ catsN b (n + 1 + size a)
  | .fnp _ a, n => catsN a (n + 1)
  | .cat a x y b, n => (⟨a, x, y, b⟩, n) :: (catsN a (n + 1) ++ catsN b (n + 1 + size a))
theorem catsN_fst (t : Pt) : ∀ n, (catsN t n).map (·.1) = catsT t := by
  induction t with
  | num i => intro n; rfl
  | name x => intro n; rfl
  | fault => intro n; rfl
  | un u a ia => intro n; exact ia _
  | bi u a b ia ib => intro n; simp [catsN, catsT, ia, ib]
  | ite a b c ia ib ic => intro n; simp [catsN, catsT, ia, ib, ic]
  | letp x a b ia ib => intro n; simp [catsN, catsT, ia, ib]
  | fnp x a ia => intro n; exact ia _
  | cat a x y b ia ib => intro n; simp [catsN, catsT, ia, ib]
theorem nodesT_cats (t : Pt) : ∀ n, nodesT 22 t n = (catsN t n).map fun c => numT c.1.t c.2 := by
  induction t with
  | num i => intro n; rfl
  | name x => intro n; rfl
  | fault => intro n; rfl
  | un u a ia => intro n; simp [nodesT, catsN, ia]
  | bi u a b ia ib => intro n; simp [nodesT, catsN, ia, ib]
  | ite a b c ia ib ic => intro n; simp [nodesT, catsN, ia, ib, ic]
  | letp x a b ia ib => intro n; simp [nodesT, catsN, ia, ib]
  | fnp x a ia => intro n; simp [nodesT, catsN, ia]
  | cat a x y b ia ib => intro n; simp [nodesT, catsN, ia, ib, Ct.t]
theorem cats_deep (t : Pt) : ∀ c ∈ catsT t, deep c.b < deep t ∧ deep c.a < deep t := by
  induction t with
  | num i => intro c h; cases h
  | name x => intro c h; cases h
  | fault => intro c h; cases h
  | un u a ia => intro c h; have := ia c h; simp only [deep]; omega
  | bi u a b ia ib =>
    intro c h
    rcases List.mem_append.mp h with h | h
    · have := ia c h; simp only [deep]; omega
    · have := ib c h; simp only [deep]; omega
  | ite a b d ia ib ic =>
    intro c h
    rcases List.mem_append.mp h with h | h
    · rcases List.mem_append.mp h with h | h
      · have := ia c h; simp only [deep]; omega
      · have := ib c h; simp only [deep]; omega
    · have := ic c h; simp only [deep]; omega
  | letp x a b ia ib =>
    intro c h
    rcases List.mem_append.mp h with h | h
    · have := ia c h; simp only [deep]; omega
    · have := ib c h; simp only [deep]; omega
  | fnp x a ia => intro c h; have := ia c h; simp only [deep]; omega
  | cat a x y b ia ib =>
    intro c h
    rcases List.mem_cons.mp h with rfl | h
    · simp only [deep]; omega
    · rcases List.mem_append.mp h with h | h
      · have := ia c h; simp only [deep]; omega
      · have := ib c h; simp only [deep]; omega
theorem cats_len (t : Pt) : (catsT t).length ≤ size t := by
  induction t with
  | num i => simp [catsT]
  | name x => simp [catsT]
  | fault => simp [catsT]
  | un u a ia => simp [catsT, size]; omega
  | bi u a b ia ib => simp [catsT, size]; omega
  | ite a b d ia ib ic => simp [catsT, size]; omega
  | letp x a b ia ib => simp [catsT, size]; omega
  | fnp x a ia => simp [catsT, size]; omega
  | cat a x y b ia ib => simp [catsT, size]; omega
/-- what papers tells of a catch -/
def pOne (c : Ct) : W := if wordT c.b (some c.y) = none then .non else papT c.b (some c.y)
section
variable {P : Prog} (H : HasN7 P) {k : Nat} {st : Store}
include H
theorem papers_is (hk : 50 < k) (t : Pt) (hw : wf [] t) (hs : size t ≤ 200) (hd : deep t ≤ 41) : Is (callF P k ("papers", none) [enc t] st) fun w st' => ∃ p, w = .ref p ∧ st'[p]? = some (.lst ((catsT t).map pOne)) ∧ st[p]? = none ∧ Fr [] st st' := by
  refine call_is H.papers (by omega) rfl fun Q hQ => ?_
  simp [c_papers]
  refine (need_is (k := k - 1) H.toHasN1 (by omega) t hw hs hd).bnd ?_
  rintro _ s1 ⟨rfl, F1⟩
  try simp
  refine (numbered_is (k := k - 1) H.toHasN3 t (by omega) (by omega)).bnd ?_
  rintro _ s2 ⟨rfl, F2⟩
  try simp
  refine (nodes_is H.toHasN3 (j := 22) (by decide) t (k - 1) s2 0 (by omega) (by omega)).bnd ?_
  rintro _ s3 ⟨q, rfl, hq, F3⟩
  have hf : s3[s1.length]? = some (.lst []) := F3.get (by simp) (F2.get (by simp) get_app0)
  have F : Fr [] st s3 := ((F1.trans Fr.app).trans F2).trans F3
  have hn : st[s1.length]? = none := by
    cases h : st[s1.length]? with
    | none => rfl
    | some o => have := len_of (F1.get (by simp) h); omega
  simp [walk_ref hq]
  rw [nodesT_cats] at hq ⊢
  refine loopF_is (fun l ρ s => ∃ (dn td : List (Ct × Nat)) (w2 w3 : Option W), catsN t 0 = dn ++ td ∧ l = td.map (fun c => numT c.1.t c.2) ∧ ρ = [some (enc t), some (.ref s1.length), w2, w3] ∧ s[q]? = some (.lst ((catsN t 0).map fun c => numT c.1.t c.2)) ∧ s[s1.length]? = some (.lst (dn.map fun c => pOne c.1)) ∧ Fr [] st s ∧ (catsN t 0 ≠ [] → q ≠ s1.length)) ?_ ?_ ?_ _ _ _ ?_
  · rintro l ρ s ⟨dn, td, w2, w3, e, rfl, rfl, hq, hf, F, hne⟩
    exact holds_one hq
  · rintro w r ρ s ⟨dn, td, w2, w3, e, he, rfl, hq, hf, F, hne⟩ C hC
    cases td with
    | nil => cases he
    | cons c td =>
      have hne0 := hne (by rw [e]; simp)
      rw [List.map_cons, List.cons.injEq] at he
      obtain ⟨rfl, rfl⟩ := he
      have hm : c.1 ∈ catsT t := by
        rw [← catsN_fst t 0, e]
        simp
      have hlen : dn.length ≤ 200 := by
        have h1 := cats_len t
        rw [← catsN_fst t 0, e] at h1
        simp at h1
        omega
      obtain ⟨⟨a, x, y, b⟩, m⟩ := c
      have hdb := (cats_deep t _ hm).1
      simp [Ct.t, numT]
      refine (paper_of_is H b (k - 1) s (m + 1 + size a) (some y) (by simp at hdb; omega)).bnd ?_
      rintro _ s4 ⟨rfl, F4⟩
      have hq4 := F4.get (by simp) hq
      have hf4 := F4.get (by simp) hf
      simp
      have e5 : ∀ s, (cnd (decide (wordT b (some y) = none)) (fun _ => R.ok W.non s) (fun _ => R.ok (papT b (some y)) s)) = .ok (pOne ⟨a, x, y, b⟩) s := by
        intro s
        by_cases h : wordT b (some y) = none <;> simp [h, pOne]
      rw [e5]
      simp
      rw [append_ref hf4 hf4 (by simp; omega)]
      simp
      refine hC _ _ ⟨dn ++ [(⟨a, x, y, b⟩, m)], td, _, _, by rw [e]; simp, rfl, rfl, ?_, ?_, ?_, hne⟩
      · rw [List.getElem?_set_ne (fun e => hne0 e.symm)]
        exact hq4
      · rw [get_set hf4]; simp
      · exact Fr.fresh (j := s1.length) (((F.trans F4).wide (by simp)).trans (Fr.set (by simp))) hn
  · rintro ρ s ⟨dn, td, w2, w3, e, he, rfl, hq, hf, F, hne⟩
    simp
    refine .k (hQ _ _ ⟨_, rfl, ?_, hn, F⟩)
    have : td = [] := by cases td with | nil => rfl | cons => cases he
    subst this
    rw [← catsN_fst t 0, e]
    rw [hf]
    simp
  · refine ⟨[], catsN t 0, _, _, rfl, rfl, rfl, hq, hf, F, fun h => ne_of hq hf (by simpa using h)⟩
theorem shows_is (hk : 50 < k) (t : Pt) (hw : wf [] t) (hs : size t ≤ 200) (hd : deep t ≤ 41) {i : Nat} {c : Ct} (hi : (catsT t)[i]? = some c) (hc : wordT c.b (some c.y) ≠ none) :
    Is (callF P k ("shows", none) [enc t, .int (i : Int), papT c.b (some c.y)] st) fun w st' => w = .bl true ∧ Fr [] st st' := by
  refine call_is H.shows_ (by omega) rfl fun Q hQ => ?_
  simp [c_shows]
  refine (need_is (k := k - 1) H.toHasN1 (by omega) t hw hs hd).bnd ?_
  rintro _ s1 ⟨rfl, F1⟩
  try simp
  refine (numbered_is (k := k - 1) H.toHasN3 t (by omega) (by omega)).bnd ?_
  rintro _ s2 ⟨rfl, F2⟩
  try simp
  refine (nodes_is H.toHasN3 (j := 22) (by decide) t (k - 1) s2 0 (by omega) (by omega)).bnd ?_
  rintro _ s3 ⟨q, rfl, hq, F3⟩
  rw [nodesT_cats] at hq
  have hfst := catsN_fst t 0
  have hlen : (catsN t 0).length = (catsT t).length := by rw [← hfst]; simp
  have hil := (List.getElem?_eq_some_iff.mp hi).1
  obtain ⟨m, hm⟩ : ∃ m, (catsN t 0)[i]? = some (c, m) := by
    rw [← hfst, List.getElem?_map] at hi
    cases h : (catsN t 0)[i]? with
    | none => rw [h] at hi; cases hi
    | some p => rw [h] at hi; simp at hi; exact ⟨p.2, by rw [← hi]⟩
  have hdb := (cats_deep t c (List.mem_of_getElem? hi)).1
  have hix : at? ((catsN t 0).map fun c => numT c.1.t c.2) (i : Int) = some (numT c.t m) := at_nat (by rw [List.getElem?_map, hm]; rfl)
  simp [len_ref hq, ix_lst hq, hlen, hil, hix]
  have h2 : Is (callF P (k - 1) ("shows_it", none) [numT c.t m, papT c.b (some c.y)] s3) fun w st' => w = .bl true ∧ Fr [] s3 st' := by
    refine call_is H.shows_it (by omega) rfl fun Q hQ => ?_
    obtain ⟨a, x, y, b⟩ := c
    simp [c_shows_it, Ct.t, numT]
    refine (is_paper_is H b (k - 1 - 1) s3 _ (some y) (by simp at hdb; omega)).bnd ?_
    rintro _ s4 ⟨rfl, F4⟩
    simp at hc
    simp [hc]
    exact .k (hQ _ _ ⟨rfl, F4⟩)
  refine h2.mono ?_
  rintro _ s4 ⟨rfl, F4⟩
  exact hQ _ _ ⟨rfl, ((F1.trans F2).trans F3).trans F4⟩
end
end PL


set_option linter.all false
set_option maxRecDepth 100000
set_option autoImplicit false
/-! L1: the law's own papers. -/
namespace PL
open MP
open PySem (Str)
structure HasL1 (P : Prog) : Prop where
  join : P.fn ("_law_join", none) = some c__law_join
  paper : P.fn ("_law_paper", none) = some c__law_paper
  catches : P.fn ("_law_catches", none) = some c__law_catches
section
variable {st : Store}
@[simp] theorem get_app4 {a b c d o : SO} {l : List SO} : (st ++ a :: b :: c :: d :: o :: l)[st.length + 4]? = some o := by simp [List.getElem?_append]
@[simp] theorem get_app5 {a b c d e o : SO} {l : List SO} : (st ++ a :: b :: c :: d :: e :: o :: l)[st.length + 5]? = some o := by simp [List.getElem?_append]
@[simp] theorem get_app6 {a b c d e f o : SO} {l : List SO} : (st ++ a :: b :: c :: d :: e :: f :: o :: l)[st.length + 6]? = some o := by simp [List.getElem?_append]
@[simp] theorem get_app7 {a b c d e f g o : SO} {l : List SO} : (st ++ a :: b :: c :: d :: e :: f :: g :: o :: l)[st.length + 7]? = some o := by simp [List.getElem?_append]
@[simp] theorem ix_app3 {a b c : SO} {ws : List W} {i : Int} {l : List SO} : ixW (.ref (st.length + 3)) (.int i) (st ++ a :: b :: c :: .lst ws :: l) = oR (at? ws i) (st ++ a :: b :: c :: .lst ws :: l) := ix_lst get_app3
@[simp] theorem ix_app4 {a b c d : SO} {ws : List W} {i : Int} {l : List SO} : ixW (.ref (st.length + 4)) (.int i) (st ++ a :: b :: c :: d :: .lst ws :: l) = oR (at? ws i) (st ++ a :: b :: c :: d :: .lst ws :: l) := ix_lst get_app4
@[simp] theorem ix_app5 {a b c d e : SO} {ws : List W} {i : Int} {l : List SO} : ixW (.ref (st.length + 5)) (.int i) (st ++ a :: b :: c :: d :: e :: .lst ws :: l) = oR (at? ws i) (st ++ a :: b :: c :: d :: e :: .lst ws :: l) := ix_lst get_app5
@[simp] theorem ix_app6 {a b c d e f : SO} {ws : List W} {i : Int} {l : List SO} : ixW (.ref (st.length + 6)) (.int i) (st ++ a :: b :: c :: d :: e :: f :: .lst ws :: l) = oR (at? ws i) (st ++ a :: b :: c :: d :: e :: f :: .lst ws :: l) := ix_lst get_app6
@[simp] theorem walk_app1 {a : SO} {ws : List W} {q : List SO} : walkOf (.ref (st.length + 1)) (st ++ a :: .lst ws :: q) = some ⟨ws, [(st.length + 1, ws)]⟩ := walk_ref get_app1
@[simp] theorem walk_app2 {a b : SO} {ws : List W} {q : List SO} : walkOf (.ref (st.length + 2)) (st ++ a :: b :: .lst ws :: q) = some ⟨ws, [(st.length + 2, ws)]⟩ := walk_ref get_app2
@[simp] theorem holds_app1 {a : SO} {l ws : List W} {q : List SO} : (Walk.mk l [(st.length + 1, ws)]).holds (st ++ a :: .lst ws :: q) = true := holds_one get_app1
@[simp] theorem holds_app2 {a b : SO} {l ws : List W} {q : List SO} : (Walk.mk l [(st.length + 2, ws)]).holds (st ++ a :: b :: .lst ws :: q) = true := holds_one get_app2
@[simp] theorem tuple_app0 {ws : List W} {q : List SO} : bltW .tuple [.ref st.length] (st ++ .lst ws :: q) = .ok (.tup ws) (st ++ .lst ws :: q) := tuple_ref get_app0
@[simp] theorem slW1 {a : W} {r : List W} : slW (.tup (a :: r)) (some 1) none st = .ok (.tup r) st := by simp [slW, cut, sIx]
@[simp] theorem slW24 {a b c d : W} {r : List W} : slW (.tup (a :: b :: c :: d :: r)) (some 2) (some 4) st = .ok (.tup [c, d]) st := by
  simp [slW, cut, sIx]
  try omega
@[simp] theorem sl1_app1 {a : SO} {w : W} {ws : List W} {q : List SO} : slW (.ref (st.length + 1)) (some 1) none (st ++ a :: .lst (w :: ws) :: q) = .ok (.ref ((st ++ a :: .lst (w :: ws) :: q)).length) ((st ++ a :: .lst (w :: ws) :: q) ++ [.lst ws]) := sl1_ref get_app1
@[simp] theorem add_3_1 {n : Nat} : n + 3 + 1 = n + 4 := (rfl)
@[simp] theorem add_4_1 {n : Nat} : n + 4 + 1 = n + 5 := (rfl)
@[simp] theorem add_5_1 {n : Nat} : n + 5 + 1 = n + 6 := (rfl)
@[simp] theorem add_6_1 {n : Nat} : n + 6 + 1 = n + 7 := (rfl)
theorem mul_refn {p : Nat} {w : W} {n : Nat} (h : st[p]? = some (.lst [w])) (hn : n ≤ 1000) : bop .mul (.ref p) (.int (n : Int)) st = .ok (.ref st.length) (st ++ [.lst (List.replicate n w)]) := by
  have e : (List.replicate n [w]).flatten = List.replicate n w := by
    induction n with
    | zero => rfl
    | succ n ih => rw [List.replicate_succ, List.flatten_cons, ih (by omega), List.replicate_succ]; rfl
  have h1 : n ≤ LIM := by simp; omega
  simp [bop, h, e]
  try omega
@[simp] theorem mul_app1_1 {a : SO} {w : W} {q : List SO} : bop .mul (.ref (st.length + 1)) (.int 1) (st ++ a :: .lst [w] :: q) = .ok (.ref (st ++ a :: .lst [w] :: q).length) ((st ++ a :: .lst [w] :: q) ++ [.lst [w]]) := mul_refn (n := 1) get_app1 (by omega)
@[simp] theorem mul_app1_2 {a : SO} {w : W} {q : List SO} : bop .mul (.ref (st.length + 1)) (.int 2) (st ++ a :: .lst [w] :: q) = .ok (.ref (st ++ a :: .lst [w] :: q).length) ((st ++ a :: .lst [w] :: q) ++ [.lst [w, w]]) := mul_refn (n := 2) get_app1 (by omega)
@[simp] theorem mul_app1_3 {a : SO} {w : W} {q : List SO} : bop .mul (.ref (st.length + 1)) (.int 3) (st ++ a :: .lst [w] :: q) = .ok (.ref (st ++ a :: .lst [w] :: q).length) ((st ++ a :: .lst [w] :: q) ++ [.lst [w, w, w]]) := mul_refn (n := 3) get_app1 (by omega)
@[simp] theorem in_8_10 {i : Nat} (hi : i < 68) : cop .isin (sW i) (.tup [sW 8, sW 10]) st = .ok (.bl (([8, 10] : List Nat).contains i)) st := in_sw (l := [8, 10]) hi (by decide)
@[simp] theorem in_15_16 {i : Nat} (hi : i < 68) : cop .isin (sW i) (.tup [sW 15, sW 16]) st = .ok (.bl (([15, 16] : List Nat).contains i)) st := in_sw (l := [15, 16]) hi (by decide)
@[simp] theorem in_loud4 {i : Nat} (hi : i < 68) : cop .isin (sW i) (.tup [sW 24, sW 25, sW 17, sW 23]) st = .ok (.bl (([24, 25, 17, 23] : List Nat).contains i)) st := in_sw (l := [24, 25, 17, 23]) hi (by decide)
@[simp] theorem ne_wd39 {a : Wo} : cop .ne (wdW a) (sW 39) st = .ok (.bl (!decide (a = some .quiet))) st := by rcases a with _ | _ | _ | _ <;> simp [wdW, ne_non_str]
theorem eq_isNm {a : Pt} {k : Option Nm} (h : deep a ≤ 50) : cop .eq (enc a) (.tup [sW 9, kW k]) st = .ok (.bl (isNm a k)) st := by
  have hs : ∀ i n, toD st n (sW i) = some (.str (sw i)) := fun i n => toD_str (okS_sw i)
  have hb : ∀ i j, i < 68 → j < 68 → (sw i == sw j) = decide (i = j) := fun i j hi hj => sw_beq hi hj
  obtain ⟨d, hd⟩ : ∃ d, toD st 60 (.tup [sW 9, kW k]) = some (.tup [.str (sw 9), d]) ∧ ((k = none ∧ d = .non) ∨ ∃ y : Nm, k = some y ∧ d = .str (sw y.val)) := by
    cases k with
    | none => exact ⟨.non, by simp [kW, toD, mapO, hs], .inl ⟨rfl, rfl⟩⟩
    | some y => exact ⟨.str (sw y.val), by simp [kW, toD, mapO, hs], .inr ⟨y, rfl, rfl⟩⟩
  obtain ⟨h1, h2⟩ := hd
  simp only [cop, eqW, toD_enc a 60 (by omega), h1]
  congr 2
  rcases h2 with ⟨rfl, rfl⟩ | ⟨y, rfl, rfl⟩
  · cases a <;> simp [encD, D.eqv, D.eqvs, isNm, hb]
  · cases a with
    | name x =>
      simp [encD, D.eqv, D.eqvs, isNm, hb]
      by_cases e : y = x
      · simp [e]
      · have : ¬ x.val = y.val := fun h => e (Fin.val_inj.mp h.symm)
        simp [e, this]
    | _ => simp [encD, D.eqv, D.eqvs, isNm, hb]
def rk : Wo → Nat
  | some .quiet => 0
  | some .free => 1
  | some .used => 2
  | none => 3
@[simp] theorem idx_ref {r : Nat} {w : Wo} (h : st[r]? = some (.lst [sW 39, sW 40, sW 41, .non])) : bmtR .index (.ref r) st [wdW w] st = .ok (.int (rk w : Int)) st := by
  have e1 := sw_beq (i := 39) (j := 40) (by decide) (by decide)
  have e2 := sw_beq (i := 39) (j := 41) (by decide) (by decide)
  have e3 := sw_beq (i := 40) (j := 41) (by decide) (by decide)
  rcases w with _ | _ | _ | _ <;> simp [bmtR, bmtW, h, wdW, flatW, idxF, eqF, rk, e1, e2, e3]
@[simp] theorem max_rk {p : Nat} {v w : Wo} (h : st[p]? = some (.lst [.int (rk v : Int), .int (rk w : Int)])) : bltW .max [.ref p] st = .ok (.int (maxL [(rk v : Int), (rk w : Int)])) st := max_ref (i := (rk v : Int)) (l := [(rk w : Int)]) h
@[simp] theorem at_rk {v w : Wo} : at? [sW 39, sW 40, sW 41, W.non] (maxL [(rk v : Int), (rk w : Int)]) = some (wdW (eitherQ v w)) := by
  rcases v with _ | _ | _ | _ <;> rcases w with _ | _ | _ | _ <;> simp [rk, maxL, eitherQ, wdW]
end
theorem kk2 {x y : Nm} {r : Option Nm} (h : r = some x ∨ r = some y) : kk x (kk y r) = none := by
  by_cases e : r = some y
  · simp [kk, e]
  · rcases h with h | h
    · simp [kk, e, h]
    · exact absurd h e
@[simp] theorem behind_q (b : Wo) : behindQ (some .quiet) b = b := by rcases b with _ | _ | _ | _ <;> rfl
@[simp] theorem cnd_bl {b : Bool} {st : Store} : cnd b (fun _ => R.ok (W.bl true) st) (fun _ => R.ok (W.bl false) st) = .ok (.bl b) st := by cases b <;> rfl
theorem foldl_none (l : List Wo) : l.foldl behindQ none = none := by
  induction l with
  | nil => rfl
  | cons a r ih => exact ih
section
variable {P : Prog} (H : HasL1 P) {k : Nat} {st : Store}
include H
theorem join_is (hk : 0 < k) {p : Nat} (ws : List Wo) (hp : st[p]? = some (.lst (ws.map wdW))) : Is (callF P k ("_law_join", none) [.ref p] st) fun w st' => w = wdW (ws.foldl behindQ (some .quiet)) ∧ st' = st := by
  refine call_is H.join hk rfl fun Q hQ => ?_
  simp [c__law_join, walk_ref hp]
  refine loopF_is (fun l ρ s => ∃ (dn td : List Wo) (w2 : Option W), ws = dn ++ td ∧ l = td.map wdW ∧ ρ = [some (.ref p), some (wdW (dn.foldl behindQ (some .quiet))), w2] ∧ s = st) ?_ ?_ ?_ _ _ _ ⟨[], ws, none, rfl, rfl, rfl, rfl⟩
  · rintro l ρ s ⟨dn, td, w2, rfl, rfl, rfl, rfl⟩
    exact holds_one hp
  · rintro w r ρ s ⟨dn, td, w2, e, he, rfl, rfl⟩ C hC
    cases td with
    | nil => cases he
    | cons c td =>
      rw [List.map_cons, List.cons.injEq] at he
      obtain ⟨rfl, rfl⟩ := he
      have hnx : ∀ v, v = behindQ (dn.foldl behindQ (some .quiet)) c → Is (fin (C [some (.ref p), some (wdW v), some (wdW c)] s)) Q := fun v hv => hC _ _ ⟨dn ++ [c], td, some (wdW c), by rw [e]; simp, rfl, by simp [hv], rfl⟩
      have hno : none = behindQ (dn.foldl behindQ (some .quiet)) c → Is (R.ok .non s) Q := fun h => .k (hQ _ _ ⟨by rw [e, List.foldl_append, List.foldl_cons, ← h, foldl_none]; rfl, rfl⟩)
      generalize dn.foldl behindQ (some .quiet) = v at *
      simp
      by_cases h1 : v = none
      · simp [h1]
        exact hno (by rw [h1]; rfl)
      · by_cases h2 : c = none
        · simp [h1, h2]
          refine hno ?_
          rw [h2]
          rcases v with _ | _ | _ | _ <;> rfl
        · by_cases h3 : v = some .quiet
          · simp [h2, h3]
            exact hnx c (by rw [h3]; rcases c with _ | _ | _ | _ <;> rfl)
          · by_cases h4 : c = some .used
            · simp [h1, h3, h4]
              refine hno ?_
              rw [h4]
              rcases v with _ | _ | _ | _
              · rfl
              · exact absurd rfl h3
              · rfl
              · rfl
            · simp [h1, h2, h3, h4]
              refine hnx v ?_
              rcases v with _ | _ | _ | _
              · exact absurd rfl h1
              · exact absurd rfl h3
              · rcases c with _ | _ | _ | _ <;> first | rfl | exact absurd rfl h2 | exact absurd rfl h4
              · rcases c with _ | _ | _ | _ <;> first | rfl | exact absurd rfl h2 | exact absurd rfl h4
  · rintro ρ s ⟨dn, td, w2, e, he, rfl, rfl⟩
    have : td = [] := by cases td with | nil => rfl | cons => cases he
    subst this
    simp
    refine .k (hQ _ _ ⟨?_, rfl⟩)
    rw [e]; simp
theorem paperL_is (t : Pt) : ∀ (k : Nat) (st : Store) (r : Option Nm), deep t + 3 ≤ k → deep t ≤ 45 → Is (callF P k ("_law_paper", none) [enc t, kW r] st) fun w st' => w = papT t r ∧ Fr [] st st' := by
  induction t with
  | num i =>
    intro k st r hk hd
    refine call_is H.paper (by omega) rfl fun Q hQ => ?_
    simp [c__law_paper, enc]
    exact .k (hQ _ _ ⟨rfl, Fr.refl⟩)
  | fault =>
    intro k st r hk hd
    refine call_is H.paper (by omega) rfl fun Q hQ => ?_
    simp [c__law_paper, enc]
    exact .k (hQ _ _ ⟨rfl, Fr.refl⟩)
  | name x =>
    intro k st r hk hd
    refine call_is H.paper (by omega) rfl fun Q hQ => ?_
    simp [c__law_paper, enc]
    have h := hQ (papT (.name x) r) st ⟨rfl, Fr.refl⟩
    by_cases e : r = some x
    · simp [e] at h ⊢
      exact .k (by simpa [papT, wordT, wordOf, wdW] using h)
    · simp [e] at h ⊢
      exact .k (by simpa [papT, wordT, wordOf, wdW, e] using h)
  | un u a ia =>
    intro k st r hk hd
    simp [deep] at hk hd
    refine call_is H.paper (by omega) rfl fun Q hQ => ?_
    have done := fun st' F => hQ (papT (.un u a) r) st' ⟨rfl, F⟩
    rw [papT_eq] at done
    simp only [papsT, wordT, wordOf] at done
    simp [c__law_paper, enc]
    have h1 := get_app0 (st := st) (o := .lst [enc a]) (l := [.lst [kW r], .lst [kW r]])
    have h2 := get_app2 (st := st) (a := .lst [enc a]) (b := .lst [kW r]) (o := .lst [kW r]) (l := [])
    have F : Fr [] st (st ++ [.lst [enc a], .lst [kW r], .lst [kW r]]) := Fr.app
    generalize st ++ [SO.lst _, SO.lst _, SO.lst _] = s at *
    simp [zipR, walk_ref h1, walk_ref h2, zipL, holds_two h1 h2]
    refine (ia _ _ _ (by omega) (by omega)).bnd ?_
    rintro _ s2 ⟨rfl, F2⟩
    replace h1 := F2.get (by simp) h1
    replace h2 := F2.get (by simp) h2
    replace F := F.trans F2
    clear F2
    simp [holds_two h1 h2]
    have hw := get_app1 (st := s2) (a := .lst (papsT (.un u a) r)) (o := .lst ((wordsT (.un u a) r).map wdW)) (l := [])
    refine (join_is (k := k - 1) H (by omega) (wordsT (.un u a) r) hw).bnd ?_
    rintro _ _ ⟨rfl, rfl⟩
    have F3 : ∀ l, Fr [] st (s2 ++ l) := fun l => F.trans Fr.app
    have h1' := fun l => get_app h1 l
    have dn := fun l => done (s2 ++ l) (F3 l)
    clear done
    simp [wordsT, papsT]
    cases u
    all_goals try (simp [loud, usesT] at dn ⊢; exact .k (dn _))
    · by_cases hq : wordT a r = some .quiet <;> simp [hq, loud, usesT, wdW] at dn ⊢ <;> exact .k (dn _)
    · simp [ix_lst (h1' _), eq_isNm (a := a) (k := r) (by omega)]
      cases hx : isNm a r
      · by_cases hq : wordT a r = some .quiet <;> simp [hx, hq, loud, usesT, wdW] at dn ⊢ <;> exact .k (dn _)
      · simp [hx, usesT, wdW] at dn ⊢; exact .k (dn _)
  | bi o a b ia ib =>
    intro k st r hk hd
    simp [deep] at hk hd
    refine call_is H.paper (by omega) rfl fun Q hQ => ?_
    have done := fun st' F => hQ (papT (.bi o a b) r) st' ⟨rfl, F⟩
    rw [papT_eq] at done
    simp only [papsT, wordT, wordOf] at done
    simp [c__law_paper, enc]
    have h1 := get_app0 (st := st) (o := .lst [enc a, enc b]) (l := [.lst [kW r], .lst [kW r, kW r]])
    have h2 := get_app2 (st := st) (a := .lst [enc a, enc b]) (b := .lst [kW r]) (o := .lst [kW r, kW r]) (l := [])
    have F : Fr [] st (st ++ [.lst [enc a, enc b], .lst [kW r], .lst [kW r, kW r]]) := Fr.app
    generalize st ++ [SO.lst _, SO.lst _, SO.lst _] = s at *
    simp [zipR, walk_ref h1, walk_ref h2, zipL, holds_two h1 h2]
    refine (ia _ _ _ (by omega) (by omega)).bnd ?_
    rintro _ s2 ⟨rfl, F2⟩
    replace h1 := F2.get (by simp) h1
    replace h2 := F2.get (by simp) h2
    replace F := F.trans F2
    clear F2
    simp [holds_two h1 h2]
    refine (ib _ _ _ (by omega) (by omega)).bnd ?_
    rintro _ s2 ⟨rfl, F2⟩
    replace h1 := F2.get (by simp) h1
    replace h2 := F2.get (by simp) h2
    replace F := F.trans F2
    clear F2
    simp [holds_two h1 h2]
    have hw := get_app1 (st := s2) (a := .lst (papsT (.bi o a b) r)) (o := .lst ((wordsT (.bi o a b) r).map wdW)) (l := [])
    refine (join_is (k := k - 1) H (by omega) (wordsT (.bi o a b) r) hw).bnd ?_
    rintro _ _ ⟨rfl, rfl⟩
    have F3 : ∀ l, Fr [] st (s2 ++ l) := fun l => F.trans Fr.app
    have h1' := fun l => get_app h1 l
    have dn := fun l => done (s2 ++ l) (F3 l)
    clear done
    simp [wordsT, papsT]
    cases o
    all_goals try (simp [loud, usesT] at dn ⊢; exact .k (dn _))
    · by_cases hq : behindQ (wordT a r) (wordT b r) = some .quiet <;> simp [hq, loud, usesT, wdW] at dn ⊢ <;> exact .k (dn _)
    · simp [ix_lst (h1' _), eq_isNm (a := a) (k := r) (by omega)]
      cases hx : isNm a r
      · by_cases hq : behindQ (wordT a r) (wordT b r) = some .quiet <;> simp [hx, hq, loud, usesT, wdW] at dn ⊢ <;> exact .k (dn _)
      · by_cases hq : wordT b r = some .quiet <;> simp [hx, hq, usesT, wdW] at dn ⊢ <;> exact .k (dn _)
  | ite a b d ia ib ic =>
    intro k st r hk hd
    simp [deep] at hk hd
    refine call_is H.paper (by omega) rfl fun Q hQ => ?_
    have done := fun st' F => hQ (papT (.ite a b d) r) st' ⟨rfl, F⟩
    rw [papT_eq] at done
    simp only [papsT, wordT, wordOf] at done
    simp [c__law_paper, enc]
    have h1 := get_app0 (st := st) (o := .lst [enc a, enc b, enc d]) (l := [.lst [kW r], .lst [kW r, kW r, kW r]])
    have h2 := get_app2 (st := st) (a := .lst [enc a, enc b, enc d]) (b := .lst [kW r]) (o := .lst [kW r, kW r, kW r]) (l := [])
    have F : Fr [] st (st ++ [.lst [enc a, enc b, enc d], .lst [kW r], .lst [kW r, kW r, kW r]]) := Fr.app
    generalize st ++ [SO.lst _, SO.lst _, SO.lst _] = s at *
    simp [zipR, walk_ref h1, walk_ref h2, zipL, holds_two h1 h2]
    refine (ia _ _ _ (by omega) (by omega)).bnd ?_
    rintro _ s2 ⟨rfl, F2⟩
    replace h1 := F2.get (by simp) h1
    replace h2 := F2.get (by simp) h2
    replace F := F.trans F2
    clear F2
    simp [holds_two h1 h2]
    refine (ib _ _ _ (by omega) (by omega)).bnd ?_
    rintro _ s2 ⟨rfl, F2⟩
    replace h1 := F2.get (by simp) h1
    replace h2 := F2.get (by simp) h2
    replace F := F.trans F2
    clear F2
    simp [holds_two h1 h2]
    refine (ic _ _ _ (by omega) (by omega)).bnd ?_
    rintro _ s2 ⟨rfl, F2⟩
    replace h1 := F2.get (by simp) h1
    replace h2 := F2.get (by simp) h2
    replace F := F.trans F2
    clear F2
    simp [holds_two h1 h2]
    have hw := get_app1 (st := s2) (a := .lst (papsT (.ite a b d) r)) (o := .lst ((wordsT (.ite a b d) r).map wdW)) (l := [])
    refine (join_is (k := k - 1) H (by omega) (wordsT (.ite a b d) r) hw).bnd ?_
    rintro _ _ ⟨rfl, rfl⟩
    have F3 : ∀ l, Fr [] st (s2 ++ l) := fun l => F.trans Fr.app
    have h1' := fun l => get_app h1 l
    have dn := fun l => done (s2 ++ l) (F3 l)
    clear done
    simp [wordsT, papsT]
    rw [max_rk (v := wordT b r) (w := wordT d r) get_app5]
    simp
    have hw2 := get_app7 (st := s2) (a := .lst [papT a r, papT b r, papT d r]) (b := .lst [wdW (wordT a r), wdW (wordT b r), wdW (wordT d r)]) (c := .lst [wdW (wordT b r), wdW (wordT d r)]) (d := .lst [sW 39, sW 40, sW 41, .non]) (e := .lst [sW 39, sW 40, sW 41, .non]) (f := .lst [.int (rk (wordT b r) : Int), .int (rk (wordT d r) : Int)]) (g := .lst [sW 39, sW 40, sW 41, .non]) (o := .lst (([wordT a r, eitherQ (wordT b r) (wordT d r)] : List Wo).map wdW)) (l := [])
    refine (join_is (k := k - 1) H (by omega) _ hw2).bnd ?_
    rintro _ _ ⟨rfl, rfl⟩
    simp
    exact .k (dn _)
  | letp x a b ia ib =>
    intro k st r hk hd
    simp [deep] at hk hd
    refine call_is H.paper (by omega) rfl fun Q hQ => ?_
    have done := fun st' F => hQ (papT (.letp x a b) r) st' ⟨rfl, F⟩
    rw [papT_eq] at done
    simp only [papsT, wordT, wordOf] at done
    simp [c__law_paper, enc]
    refine Is.br (fun ρ s => ρ = [some (.tup [sW 15, sW x.val, enc a, enc b]), some (kW r), some (sW 15), some (.ref st.length), some (.ref (st.length + 2)), none, none, none, none, none, none] ∧ s[st.length]? = some (.lst [enc a, enc b]) ∧ s[st.length + 2]? = some (.lst [kW r, kW (kk x r)]) ∧ Fr [] st s) ?_ ?_ ?_
    · intro hc C hC
      have hk0 : kW (kk x r) = .non := by
        simp at hc
        rw [hc]; simp [kk, kW]
      rw [set_lst (j := 1) get_app2 rfl]
      simp
      refine hC _ _ ⟨rfl, get_app0, ?_, Fr.app⟩
      rw [get_app2, hk0]
    · intro hc C hC
      have hk0 : kW (kk x r) = kW r := by
        simp at hc
        simp [kk, hc]
      simp
      refine hC _ _ ⟨rfl, get_app0, ?_, Fr.app⟩
      rw [get_app2, hk0]
    rintro _ s ⟨rfl, h1, h2, F⟩
    simp [zipR, walk_ref h1, walk_ref h2, zipL, holds_two h1 h2]
    refine (ia _ _ _ (by omega) (by omega)).bnd ?_
    rintro _ s2 ⟨rfl, F2⟩
    replace h1 := F2.get (by simp) h1
    replace h2 := F2.get (by simp) h2
    replace F := F.trans F2
    clear F2
    simp [holds_two h1 h2]
    refine (ib _ _ _ (by omega) (by omega)).bnd ?_
    rintro _ s2 ⟨rfl, F2⟩
    replace h1 := F2.get (by simp) h1
    replace h2 := F2.get (by simp) h2
    replace F := F.trans F2
    clear F2
    simp [holds_two h1 h2]
    have hw := get_app1 (st := s2) (a := .lst (papsT (.letp x a b) r)) (o := .lst ((wordsT (.letp x a b) r).map wdW)) (l := [])
    refine (join_is (k := k - 1) H (by omega) (wordsT (.letp x a b) r) hw).bnd ?_
    rintro _ _ ⟨rfl, rfl⟩
    have F3 : ∀ l, Fr [] st (s2 ++ l) := fun l => F.trans Fr.app
    have h1' := fun l => get_app h1 l
    have dn := fun l => done (s2 ++ l) (F3 l)
    clear done
    simp [wordsT, papsT]
    exact .k (dn _)
  | fnp x a ia =>
    intro k st r hk hd
    simp [deep] at hk hd
    refine call_is H.paper (by omega) rfl fun Q hQ => ?_
    have done := fun st' F => hQ (papT (.fnp x a) r) st' ⟨rfl, F⟩
    rw [papT_eq] at done
    simp only [papsT, wordT, wordOf] at done
    simp [c__law_paper, enc]
    refine Is.br (fun ρ s => ρ = [some (.tup [sW 16, sW x.val, enc a]), some (kW r), some (sW 16), some (.ref st.length), some (.ref (st.length + 2)), none, none, none, none, none, none] ∧ s[st.length]? = some (.lst [enc a]) ∧ s[st.length + 2]? = some (.lst [kW (kk x r)]) ∧ Fr [] st s) ?_ ?_ ?_
    · intro hc C hC
      have hk0 : kW (kk x r) = .non := by
        simp at hc
        rw [hc]; simp [kk, kW]
      rw [set_lst (j := 0) get_app2 rfl]
      simp
      refine hC _ _ ⟨rfl, get_app0, ?_, Fr.app⟩
      rw [get_app2, hk0]
    · intro hc C hC
      have hk0 : kW (kk x r) = kW r := by
        simp at hc
        simp [kk, hc]
      simp
      refine hC _ _ ⟨rfl, get_app0, ?_, Fr.app⟩
      rw [get_app2, hk0]
    rintro _ s ⟨rfl, h1, h2, F⟩
    simp [zipR, walk_ref h1, walk_ref h2, zipL, holds_two h1 h2]
    refine (ia _ _ _ (by omega) (by omega)).bnd ?_
    rintro _ s2 ⟨rfl, F2⟩
    replace h1 := F2.get (by simp) h1
    replace h2 := F2.get (by simp) h2
    replace F := F.trans F2
    clear F2
    simp [holds_two h1 h2]
    have hw := get_app1 (st := s2) (a := .lst (papsT (.fnp x a) r)) (o := .lst ((wordsT (.fnp x a) r).map wdW)) (l := [])
    refine (join_is (k := k - 1) H (by omega) (wordsT (.fnp x a) r) hw).bnd ?_
    rintro _ _ ⟨rfl, rfl⟩
    have F3 : ∀ l, Fr [] st (s2 ++ l) := fun l => F.trans Fr.app
    have h1' := fun l => get_app h1 l
    have dn := fun l => done (s2 ++ l) (F3 l)
    clear done
    simp [wordsT, papsT]
    by_cases hq : wordT a (kk x r) = some .quiet <;> by_cases hf : wordT a (kk x r) = some .free <;> simp [hq, hf, wdW] at dn ⊢ <;> exact .k (dn _)
  | cat a x y b ia ib =>
    intro k st r hk hd
    simp [deep] at hk hd
    refine call_is H.paper (by omega) rfl fun Q hQ => ?_
    have done := fun st' F => hQ (papT (.cat a x y b) r) st' ⟨rfl, F⟩
    rw [papT_eq] at done
    simp only [papsT, wordT, wordOf] at done
    simp [c__law_paper, enc]
    refine Is.br (fun ρ s => ρ = [some (.tup [sW 22, enc a, sW x.val, sW y.val, enc b]), some (kW r), some (sW 22), some (.ref st.length), some (.ref (st.length + 2)), none, none, none, none, none, none] ∧ s[st.length]? = some (.lst [enc a, enc b]) ∧ s[st.length + 2]? = some (.lst [kW r, kW (kk x (kk y r))]) ∧ Fr [] st s) ?_ ?_ ?_
    · intro hc C hC
      have hk0 : kW (kk x (kk y r)) = .non := by
        simp at hc
        rw [kk2 hc]; rfl
      rw [set_lst (j := 1) get_app2 rfl]
      simp
      refine hC _ _ ⟨rfl, get_app0, ?_, Fr.app⟩
      rw [get_app2, hk0]
    · intro hc C hC
      have hk0 : kW (kk x (kk y r)) = kW r := by
        simp at hc
        simp [kk, hc.1, hc.2]
      simp
      refine hC _ _ ⟨rfl, get_app0, ?_, Fr.app⟩
      rw [get_app2, hk0]
    rintro _ s ⟨rfl, h1, h2, F⟩
    simp [zipR, walk_ref h1, walk_ref h2, zipL, holds_two h1 h2]
    refine (ia _ _ _ (by omega) (by omega)).bnd ?_
    rintro _ s2 ⟨rfl, F2⟩
    replace h1 := F2.get (by simp) h1
    replace h2 := F2.get (by simp) h2
    replace F := F.trans F2
    clear F2
    simp [holds_two h1 h2]
    refine (ib _ _ _ (by omega) (by omega)).bnd ?_
    rintro _ s2 ⟨rfl, F2⟩
    replace h1 := F2.get (by simp) h1
    replace h2 := F2.get (by simp) h2
    replace F := F.trans F2
    clear F2
    simp [holds_two h1 h2]
    have hw := get_app1 (st := s2) (a := .lst (papsT (.cat a x y b) r)) (o := .lst ((wordsT (.cat a x y b) r).map wdW)) (l := [])
    refine (join_is (k := k - 1) H (by omega) (wordsT (.cat a x y b) r) hw).bnd ?_
    rintro _ _ ⟨rfl, rfl⟩
    have F3 : ∀ l, Fr [] st (s2 ++ l) := fun l => F.trans Fr.app
    have h1' := fun l => get_app h1 l
    have dn := fun l => done (s2 ++ l) (F3 l)
    clear done
    simp [wordsT, papsT]
    rcases hA : wordT a r with _ | _ | _ | _ <;> rcases hB : wordT b (kk x (kk y r)) with _ | _ | _ | _ <;> simp [hA, hB, wdW, behindQ, isNil, eq_non_str, ne_non_str] at dn ⊢ <;> exact .k (dn _)
end
end PL


set_option linter.all false
set_option maxRecDepth 100000
set_option autoImplicit false
namespace PL
open MP
open PySem (Str)
structure HasL2 (P : Prog) : Prop extends HasL1 P where
  lpapers : P.fn ("_law_papers", none) = some c__law_papers
  like : P.fn ("_law_like", none) = some c__law_like
section
variable {P : Prog} (H : HasL2 P) {k : Nat} {st : Store}
include H
theorem catches_is (t : Pt) : ∀ (k : Nat) (st : Store), deep t ≤ k → size t ≤ 1000 →
    Is (callF P k ("_law_catches", none) [enc t] st) fun w st' => ∃ p, w = .ref p ∧ st'[p]? = some (.lst ((catsT t).map fun c => enc c.t)) ∧ Fr [] st st' := by
  induction t with
  | num i =>
    intro k st hk hs
    simp [deep] at hk
    refine call_is H.catches (by omega) rfl fun Q hQ => ?_
    simp [c__law_catches, enc]
    have hf := get_app0 (st := st) (o := .lst []) (l := [])
    have F : Fr [] st (st ++ [.lst []]) := Fr.app
    generalize st ++ [SO.lst _] = s1 at *
    generalize st.length = f at *
    exact .k (hQ _ _ ⟨_, rfl, by rw [hf]; simp [catsT, Ct.t, enc], F⟩)
  | name x =>
    intro k st hk hs
    simp [deep] at hk
    refine call_is H.catches (by omega) rfl fun Q hQ => ?_
    simp [c__law_catches, enc]
    have hf := get_app0 (st := st) (o := .lst []) (l := [])
    have F : Fr [] st (st ++ [.lst []]) := Fr.app
    generalize st ++ [SO.lst _] = s1 at *
    generalize st.length = f at *
    exact .k (hQ _ _ ⟨_, rfl, by rw [hf]; simp [catsT, Ct.t, enc], F⟩)
  | fault  =>
    intro k st hk hs
    simp [deep] at hk
    refine call_is H.catches (by omega) rfl fun Q hQ => ?_
    simp [c__law_catches, enc]
    have hf := get_app0 (st := st) (o := .lst []) (l := [])
    have F : Fr [] st (st ++ [.lst []]) := Fr.app
    generalize st ++ [SO.lst _] = s1 at *
    generalize st.length = f at *
    exact .k (hQ _ _ ⟨_, rfl, by rw [hf]; simp [catsT, Ct.t, enc], F⟩)
  | un u a ia =>
    intro k st hk hs
    simp [deep] at hk
    refine call_is H.catches (by omega) rfl fun Q hQ => ?_
    simp [c__law_catches, enc]
    have hf := get_app0 (st := st) (o := .lst []) (l := [])
    have F : Fr [] st (st ++ [.lst []]) := Fr.app
    generalize st ++ [SO.lst _] = s1 at *
    generalize st.length = f at *
    simp [size] at hs
    refine (ia _ _ (by omega) (by omega)).bnd ?_
    rintro _ s2 ⟨p, rfl, hp, F2⟩
    have hl1 := cats_len a
    obtain ⟨s3, e, hf3, F3⟩ := add_refs (F2.get (by simp) hf) hp (by simp only [List.length_append, List.length_map, List.length_cons, List.length_nil, LIM_eq]; omega)
    try simp
    rw [e]
    replace F := (F.trans F2).trans F3
    replace hf := hf3
    clear hf3 F2 F3 hp e
    generalize s2.length = f at *
    try simp
    exact .k (hQ _ _ ⟨_, rfl, by rw [hf]; simp [catsT, Ct.t, enc], F⟩)
  | bi o a b ia ib =>
    intro k st hk hs
    simp [deep] at hk
    refine call_is H.catches (by omega) rfl fun Q hQ => ?_
    simp [c__law_catches, enc]
    have hf := get_app0 (st := st) (o := .lst []) (l := [])
    have F : Fr [] st (st ++ [.lst []]) := Fr.app
    generalize st ++ [SO.lst _] = s1 at *
    generalize st.length = f at *
    simp [size] at hs
    refine (ia _ _ (by omega) (by omega)).bnd ?_
    rintro _ s2 ⟨p, rfl, hp, F2⟩
    have hl1 := cats_len a
    obtain ⟨s3, e, hf3, F3⟩ := add_refs (F2.get (by simp) hf) hp (by simp only [List.length_append, List.length_map, List.length_cons, List.length_nil, LIM_eq]; omega)
    try simp
    rw [e]
    replace F := (F.trans F2).trans F3
    replace hf := hf3
    clear hf3 F2 F3 hp e
    generalize s2.length = f at *
    try simp
    refine (ib _ _ (by omega) (by omega)).bnd ?_
    rintro _ s2 ⟨p, rfl, hp, F2⟩
    have hl1 := cats_len b
    obtain ⟨s3, e, hf3, F3⟩ := add_refs (F2.get (by simp) hf) hp (by simp only [List.length_append, List.length_map, List.length_cons, List.length_nil, LIM_eq]; omega)
    try simp
    rw [e]
    replace F := (F.trans F2).trans F3
    replace hf := hf3
    clear hf3 F2 F3 hp e
    generalize s2.length = f at *
    try simp
    exact .k (hQ _ _ ⟨_, rfl, by rw [hf]; simp [catsT, Ct.t, enc], F⟩)
  | ite a b d ia ib ic =>
    intro k st hk hs
    simp [deep] at hk
    refine call_is H.catches (by omega) rfl fun Q hQ => ?_
    simp [c__law_catches, enc]
    have hf := get_app0 (st := st) (o := .lst []) (l := [])
    have F : Fr [] st (st ++ [.lst []]) := Fr.app
    generalize st ++ [SO.lst _] = s1 at *
    generalize st.length = f at *
    simp [size] at hs
    refine (ia _ _ (by omega) (by omega)).bnd ?_
    rintro _ s2 ⟨p, rfl, hp, F2⟩
    have hl1 := cats_len a
    obtain ⟨s3, e, hf3, F3⟩ := add_refs (F2.get (by simp) hf) hp (by simp only [List.length_append, List.length_map, List.length_cons, List.length_nil, LIM_eq]; omega)
    try simp
    rw [e]
    replace F := (F.trans F2).trans F3
    replace hf := hf3
    clear hf3 F2 F3 hp e
    generalize s2.length = f at *
    try simp
    refine (ib _ _ (by omega) (by omega)).bnd ?_
    rintro _ s2 ⟨p, rfl, hp, F2⟩
    have hl1 := cats_len b
    obtain ⟨s3, e, hf3, F3⟩ := add_refs (F2.get (by simp) hf) hp (by simp only [List.length_append, List.length_map, List.length_cons, List.length_nil, LIM_eq]; omega)
    try simp
    rw [e]
    replace F := (F.trans F2).trans F3
    replace hf := hf3
    clear hf3 F2 F3 hp e
    generalize s2.length = f at *
    try simp
    refine (ic _ _ (by omega) (by omega)).bnd ?_
    rintro _ s2 ⟨p, rfl, hp, F2⟩
    have hl1 := cats_len d
    obtain ⟨s3, e, hf3, F3⟩ := add_refs (F2.get (by simp) hf) hp (by simp only [List.length_append, List.length_map, List.length_cons, List.length_nil, LIM_eq]; omega)
    try simp
    rw [e]
    replace F := (F.trans F2).trans F3
    replace hf := hf3
    clear hf3 F2 F3 hp e
    generalize s2.length = f at *
    try simp
    exact .k (hQ _ _ ⟨_, rfl, by rw [hf]; simp [catsT, Ct.t, enc], F⟩)
  | letp x a b ia ib =>
    intro k st hk hs
    simp [deep] at hk
    refine call_is H.catches (by omega) rfl fun Q hQ => ?_
    simp [c__law_catches, enc]
    have hf := get_app0 (st := st) (o := .lst []) (l := [])
    have F : Fr [] st (st ++ [.lst []]) := Fr.app
    generalize st ++ [SO.lst _] = s1 at *
    generalize st.length = f at *
    simp [size] at hs
    refine (ia _ _ (by omega) (by omega)).bnd ?_
    rintro _ s2 ⟨p, rfl, hp, F2⟩
    have hl1 := cats_len a
    obtain ⟨s3, e, hf3, F3⟩ := add_refs (F2.get (by simp) hf) hp (by simp only [List.length_append, List.length_map, List.length_cons, List.length_nil, LIM_eq]; omega)
    try simp
    rw [e]
    replace F := (F.trans F2).trans F3
    replace hf := hf3
    clear hf3 F2 F3 hp e
    generalize s2.length = f at *
    try simp
    refine (ib _ _ (by omega) (by omega)).bnd ?_
    rintro _ s2 ⟨p, rfl, hp, F2⟩
    have hl1 := cats_len b
    obtain ⟨s3, e, hf3, F3⟩ := add_refs (F2.get (by simp) hf) hp (by simp only [List.length_append, List.length_map, List.length_cons, List.length_nil, LIM_eq]; omega)
    try simp
    rw [e]
    replace F := (F.trans F2).trans F3
    replace hf := hf3
    clear hf3 F2 F3 hp e
    generalize s2.length = f at *
    try simp
    exact .k (hQ _ _ ⟨_, rfl, by rw [hf]; simp [catsT, Ct.t, enc], F⟩)
  | fnp x a ia =>
    intro k st hk hs
    simp [deep] at hk
    refine call_is H.catches (by omega) rfl fun Q hQ => ?_
    simp [c__law_catches, enc]
    have hf := get_app0 (st := st) (o := .lst []) (l := [])
    have F : Fr [] st (st ++ [.lst []]) := Fr.app
    generalize st ++ [SO.lst _] = s1 at *
    generalize st.length = f at *
    simp [size] at hs
    refine (ia _ _ (by omega) (by omega)).bnd ?_
    rintro _ s2 ⟨p, rfl, hp, F2⟩
    have hl1 := cats_len a
    obtain ⟨s3, e, hf3, F3⟩ := add_refs (F2.get (by simp) hf) hp (by simp only [List.length_append, List.length_map, List.length_cons, List.length_nil, LIM_eq]; omega)
    try simp
    rw [e]
    replace F := (F.trans F2).trans F3
    replace hf := hf3
    clear hf3 F2 F3 hp e
    generalize s2.length = f at *
    try simp
    exact .k (hQ _ _ ⟨_, rfl, by rw [hf]; simp [catsT, Ct.t, enc], F⟩)
  | cat a x y b ia ib =>
    intro k st hk hs
    simp [deep] at hk
    refine call_is H.catches (by omega) rfl fun Q hQ => ?_
    simp [c__law_catches, enc]
    have hf := get_app0 (st := st) (o := .lst [enc (.cat a x y b)]) (l := [])
    have F : Fr [] st (st ++ [.lst [enc (.cat a x y b)]]) := Fr.app
    simp only [enc] at hf F
    generalize st ++ [SO.lst _] = s1 at *
    generalize st.length = f at *
    simp [size] at hs
    refine (ia _ _ (by omega) (by omega)).bnd ?_
    rintro _ s2 ⟨p, rfl, hp, F2⟩
    have hl1 := cats_len a
    obtain ⟨s3, e, hf3, F3⟩ := add_refs (F2.get (by simp) hf) hp (by simp only [List.length_append, List.length_map, List.length_cons, List.length_nil, LIM_eq]; omega)
    try simp
    rw [e]
    replace F := (F.trans F2).trans F3
    replace hf := hf3
    clear hf3 F2 F3 hp e
    generalize s2.length = f at *
    try simp
    refine (ib _ _ (by omega) (by omega)).bnd ?_
    rintro _ s2 ⟨p, rfl, hp, F2⟩
    have hl1 := cats_len b
    obtain ⟨s3, e, hf3, F3⟩ := add_refs (F2.get (by simp) hf) hp (by simp only [List.length_append, List.length_map, List.length_cons, List.length_nil, LIM_eq]; omega)
    try simp
    rw [e]
    replace F := (F.trans F2).trans F3
    replace hf := hf3
    clear hf3 F2 F3 hp e
    generalize s2.length = f at *
    try simp
    exact .k (hQ _ _ ⟨_, rfl, by rw [hf]; simp [catsT, Ct.t, enc], F⟩)
theorem lpapers_is (hk : 50 < k) (t : Pt) (hs : size t ≤ 200) (hd : deep t ≤ 41) : Is (callF P k ("_law_papers", none) [enc t] st) fun w st' => ∃ p, w = .ref p ∧ st'[p]? = some (.lst ((catsT t).map pOne)) ∧ st[p]? = none ∧ Fr [] st st' := by
  refine call_is H.lpapers (by omega) rfl fun Q hQ => ?_
  simp [c__law_papers]
  refine (catches_is H t (k - 1) _ (by omega) (by omega)).bnd ?_
  rintro _ s3 ⟨q, rfl, hq, F3⟩
  have hf : s3[st.length]? = some (.lst []) := F3.get (by simp) get_app0
  have F : Fr [] st s3 := Fr.app.trans F3
  have hn : st[st.length]? = none := by simp
  simp [walk_ref hq]
  refine loopF_is (fun l ρ s => ∃ (dn td : List Ct) (w2 w3 : Option W), catsT t = dn ++ td ∧ l = td.map (fun c => enc c.t) ∧ ρ = [some (enc t), some (.ref st.length), w2, w3] ∧ s[q]? = some (.lst ((catsT t).map fun c => enc c.t)) ∧ s[st.length]? = some (.lst (dn.map pOne)) ∧ Fr [] st s ∧ (catsT t ≠ [] → q ≠ st.length)) ?_ ?_ ?_ _ _ _ ?_
  · rintro l ρ s ⟨dn, td, w2, w3, e, rfl, rfl, hq, hf, F, hne⟩
    exact holds_one hq
  · rintro w r ρ s ⟨dn, td, w2, w3, e, he, rfl, hq, hf, F, hne⟩ C hC
    cases td with
    | nil => cases he
    | cons c td =>
      have hne0 := hne (by rw [e]; simp)
      rw [List.map_cons, List.cons.injEq] at he
      obtain ⟨rfl, rfl⟩ := he
      have hm : c ∈ catsT t := by rw [e]; simp
      have hlen : dn.length ≤ 200 := by
        have h1 := cats_len t
        rw [e] at h1
        simp at h1
        omega
      obtain ⟨a, x, y, b⟩ := c
      have hdb := (cats_deep t _ hm).1
      simp [Ct.t, enc]
      refine (paperL_is H.toHasL1 b (k - 1) s (some y) (by simp at hdb; omega) (by simp at hdb; omega)).bnd ?_
      rintro _ s4 ⟨rfl, F4⟩
      have hq4 := F4.get (by simp) hq
      have hf4 := F4.get (by simp) hf
      simp
      have e5 : ∀ s, (cnd (decide (wordT b (some y) = none)) (fun _ => R.ok W.non s) (fun _ => R.ok (papT b (some y)) s)) = .ok (pOne ⟨a, x, y, b⟩) s := by
        intro s
        by_cases h : wordT b (some y) = none <;> simp [h, pOne]
      rw [e5]
      simp
      rw [append_ref hf4 hf4 (by simp; omega)]
      simp
      refine hC _ _ ⟨dn ++ [⟨a, x, y, b⟩], td, _, _, by rw [e]; simp, rfl, rfl, ?_, ?_, ?_, hne⟩
      · rw [List.getElem?_set_ne (fun e => hne0 e.symm)]
        exact hq4
      · rw [get_set hf4]; simp
      · exact Fr.fresh (j := st.length) (((F.trans F4).wide (by simp)).trans (Fr.set (by simp))) hn
  · rintro ρ s ⟨dn, td, w2, w3, e, he, rfl, hq, hf, F, hne⟩
    simp
    refine .k (hQ _ _ ⟨_, rfl, ?_, hn, F⟩)
    have : td = [] := by cases td with | nil => rfl | cons => cases he
    subst this
    rw [e, hf]
    simp
  · exact ⟨[], catsT t, _, _, rfl, rfl, rfl, hq, hf, F, fun h => ne_of hq hf (by simpa using h)⟩
/-- data of tuples, texts and None, no deeper than n -/
def plD : Nat → W → Prop
  | _, .non => True
  | _, .str x => okS x = true
  | n + 1, .tup ws => ws.length ≤ 1000 ∧ ∀ w ∈ ws, plD n w
  | _, _ => False
theorem like_is : ∀ (n : Nat) (w : W) (k : Nat) (st : Store), plD n w → n < k → callF P k ("_law_like", none) [w, w] st = .ok (.bl true) st := by
  intro n
  induction n with
  | zero =>
    intro w k st h hk
    obtain ⟨j, rfl⟩ : ∃ j, k = j + 1 := ⟨k - 1, by omega⟩
    rw [call_fin H.like rfl]
    cases w with
    | non => simp [c__law_like]
    | str x => simp only [plD] at h; simp [c__law_like, eq_str h h]
    | _ => cases h
  | succ n ih =>
    intro w k st h hk
    obtain ⟨j, rfl⟩ : ∃ j, k = j + 1 := ⟨k - 1, by omega⟩
    cases w with
    | non => rw [call_fin H.like rfl]; simp [c__law_like]
    | str x => rw [call_fin H.like rfl]; simp only [plD] at h; simp [c__law_like, eq_str h h]
    | tup ws =>
      obtain ⟨hl, hw⟩ := h
      have key : Is (callF P (j + 1) ("_law_like", none) [.tup ws, .tup ws] st) fun w st' => w = .bl true ∧ st' = st := by
        refine call_is H.like (by omega) rfl fun Q hQ => ?_
        simp [c__law_like, rngR_i (n := ws.length) (by omega)]
        refine loopF_is (fun l ρ s => ∃ (i : Nat) (w2 : Option W), i ≤ ws.length ∧ l = (List.range' i (ws.length - i)).map (fun (i : Nat) => W.int (i : Int)) ∧ ρ = [some (.tup ws), some (.tup ws), w2] ∧ s = st) ?_ ?_ ?_ _ _ _ ⟨0, none, by omega, by simp [List.range_eq_range'], rfl, rfl⟩
        · rintro l ρ s ⟨i, w2, hi, rfl, rfl, rfl⟩
          simp
        · rintro w r ρ s ⟨i, w2, hi, he, rfl, rfl⟩ C hC
          by_cases hlt : i < ws.length
          · rw [show ws.length - i = (ws.length - (i + 1)) + 1 by omega, List.range'_succ, List.map_cons, List.cons.injEq] at he
            obtain ⟨rfl, rfl⟩ := he
            have hg := List.getElem?_eq_getElem hlt
            simp [at_nat hg]
            rw [ih _ j s (hw _ (List.getElem_mem hlt)) (by omega)]
            simp
            exact hC _ _ ⟨i + 1, _, by omega, rfl, rfl, rfl⟩
          · rw [show ws.length - i = 0 by omega] at he
            cases he
        · rintro ρ s ⟨i, w2, hi, he, rfl, rfl⟩
          simp
          exact .k (hQ _ _ ⟨rfl, rfl⟩)
      obtain ⟨a, s, e, rfl, rfl⟩ := key.ex
      exact e
    | _ => cases h
theorem like_true (hk : 0 < k) (b : Bool) : callF P k ("_law_like", none) [.bl b, .bl b] st = .ok (.bl true) st := by
  obtain ⟨j, rfl⟩ : ∃ j, k = j + 1 := ⟨k - 1, by omega⟩
  rw [call_fin H.like rfl]
  simp [c__law_like]
/-- lists of the same data -/
theorem like_refs (n : Nat) {ws : List W} (hw : ∀ w ∈ ws, plD n w) (hl : ws.length ≤ 1000) {p q : Nat} (hp : st[p]? = some (.lst ws)) (hq : st[q]? = some (.lst ws)) (hk : n + 1 < k) : callF P k ("_law_like", none) [.ref p, .ref q] st = .ok (.bl true) st := by
  have key : Is (callF P k ("_law_like", none) [.ref p, .ref q] st) fun w st' => w = .bl true ∧ st' = st := by
    refine call_is H.like (by omega) rfl fun Q hQ => ?_
    have hi : ∀ c, (c = .tuple ∨ c = .list ∨ c = .int ∨ c = .str ∨ c = .bool) → isiW (.ref p) c st = some (decide (c = .list)) := fun c hc => isi_ref hp hc
    have hi2 : ∀ c, (c = .tuple ∨ c = .list ∨ c = .int ∨ c = .str ∨ c = .bool) → isiW (.ref q) c st = some (decide (c = .list)) := fun c hc => isi_ref hq hc
    simp [c__law_like, hi, hi2, isNil, len_ref hp, len_ref hq, rngR_i (n := ws.length) (by omega)]
    refine loopF_is (fun l ρ s => ∃ (i : Nat) (w2 : Option W), i ≤ ws.length ∧ l = (List.range' i (ws.length - i)).map (fun (i : Nat) => W.int (i : Int)) ∧ ρ = [some (.ref p), some (.ref q), w2] ∧ s = st) ?_ ?_ ?_ _ _ _ ⟨0, none, by omega, by simp [List.range_eq_range'], rfl, rfl⟩
    · rintro l ρ s ⟨i, w2, hi, rfl, rfl, rfl⟩
      simp
    · rintro w r ρ s ⟨i, w2, hi, he, rfl, rfl⟩ C hC
      by_cases hlt : i < ws.length
      · rw [show ws.length - i = (ws.length - (i + 1)) + 1 by omega, List.range'_succ, List.map_cons, List.cons.injEq] at he
        obtain ⟨rfl, rfl⟩ := he
        have hg := List.getElem?_eq_getElem hlt
        simp [ix_lst hp, ix_lst hq, at_nat hg]
        rw [like_is H n _ (k - 1) s (hw _ (List.getElem_mem hlt)) (by omega)]
        simp
        exact hC _ _ ⟨i + 1, _, by omega, rfl, rfl, rfl⟩
      · rw [show ws.length - i = 0 by omega] at he
        cases he
    · rintro ρ s ⟨i, w2, hi, he, rfl, rfl⟩
      simp
      exact .k (hQ _ _ ⟨rfl, rfl⟩)
  obtain ⟨a, s, e, rfl, rfl⟩ := key.ex
  exact e
omit H in
theorem plD_mono : ∀ (n m : Nat) (w : W), plD n w → n ≤ m → plD m w := by
  intro n
  induction n with
  | zero =>
    intro m w h _
    cases w with
    | non => cases m <;> trivial
    | str x => cases m <;> exact h
    | _ => cases h
  | succ n ih =>
    intro m w h hm
    obtain ⟨m, rfl⟩ : ∃ j, m = j + 1 := ⟨m - 1, by omega⟩
    cases w with
    | non => trivial
    | str x => exact h
    | tup ws => exact ⟨h.1, fun w hw => ih m w (h.2 w hw) (by omega)⟩
    | _ => cases h
omit H in
theorem plD_wd {n : Nat} (a : Wo) : plD n (wdW a) := by
  rcases a with _ | _ | _ | _ <;> cases n <;> first | trivial | exact okS_sw _
omit H in
theorem plD_pap (t : Pt) : ∀ r, plD (2 * deep t) (papT t r) := by
  have mk : ∀ (n : Nat) (a : Wo) (ps : List W), ps.length ≤ 3 → (∀ p ∈ ps, plD (2 * n) p) → plD (2 * (n + 1)) (.tup [wdW a, .tup ps]) := by
    intro n a ps hl h
    refine ⟨by simp, fun w hw => ?_⟩
    simp at hw
    rcases hw with rfl | rfl
    · exact plD_wd a
    · exact ⟨by omega, fun p hp => h p hp⟩
  have up : ∀ {a : Pt} {n : Nat} {r}, (∀ r, plD (2 * deep a) (papT a r)) → deep a ≤ n → plD (2 * n) (papT a r) := fun h hn => plD_mono _ _ _ (h _) (by omega)
  induction t with
  | num i => intro r; exact mk 0 _ [] (by simp) (by simp)
  | name x => intro r; exact mk 0 _ [] (by simp) (by simp)
  | fault => intro r; exact mk 0 _ [] (by simp) (by simp)
  | un u a ia => intro r; exact mk _ _ _ (by simp) (by intro p hp; simp at hp; rw [hp]; exact up ia (by omega))
  | bi o a b ia ib => intro r; exact mk _ _ _ (by simp) (by intro p hp; simp at hp; rcases hp with rfl | rfl; exact up ia (by omega); exact up ib (by omega))
  | ite a b c ia ib ic => intro r; exact mk _ _ _ (by simp) (by intro p hp; simp at hp; rcases hp with rfl | rfl | rfl; exact up ia (by omega); exact up ib (by omega); exact up ic (by omega))
  | letp x a b ia ib => intro r; exact mk _ _ _ (by simp) (by intro p hp; simp at hp; rcases hp with rfl | rfl; exact up ia (by omega); exact up ib (by omega))
  | fnp x a ia => intro r; exact mk _ _ _ (by simp) (by intro p hp; simp at hp; rw [hp]; exact up ia (by omega))
  | cat a x y b ia ib => intro r; exact mk _ _ _ (by simp) (by intro p hp; simp at hp; rcases hp with rfl | rfl; exact up ia (by omega); exact up ib (by omega))
omit H in
theorem plD_one {t : Pt} (hd : deep t ≤ 41) : ∀ w ∈ (catsT t).map pOne, plD 82 w := by
  intro w hw
  obtain ⟨c, hc, rfl⟩ := List.mem_map.mp hw
  have := (cats_deep t c hc).1
  unfold pOne
  split
  · trivial
  · exact plD_mono _ _ _ (plD_pap c.b _) (by omega)
end
end PL


set_option linter.all false
set_option maxRecDepth 100000
set_option autoImplicit false
namespace PL
open MP
open PySem (Str)
structure HasL3 (P : Prog) : Prop extends HasG6 P where
  handled : P.fn ("_law_handled", none) = some c__law_handled
section
variable {P : Prog} {k : Nat} {st : Store} {d n m : Nat} {g : List Nm} {r : Int}
theorem dice_is (H : HasG1 P) (hk : 0 < k) (ns : List Int) : Is (callF P k ("_law_dice", none) [.fro (ns.map .int)] st) fun w st' => ∃ d, w = .ref d ∧ Dice st' d ∧ Fr [] st st' := by
  refine call_is H.dice hk rfl fun Q hQ => ?_
  simp [c__law_dice]
  refine loopF_is (fun l ρ s => ∃ (ms : List Int) (x : Int) (w2 : Option W), l = ms.map .int ∧ ρ = [some (.fro (ns.map .int)), some (.int x), w2] ∧ s = st) ?_ ?_ ?_ _ _ _ ⟨ns, 0, none, rfl, rfl, rfl⟩
  · rintro l ρ s ⟨ms, x, w2, rfl, rfl, rfl⟩
    simp
  · rintro w r ρ s ⟨ms, x, w2, he, rfl, rfl⟩ C hC
    cases ms with
    | nil => cases he
    | cons a ms =>
      rw [List.map_cons, List.cons.injEq] at he
      obtain ⟨rfl, rfl⟩ := he
      simp [mul_int (i := x) (j := 48271) (by omega), mod_int (j := 2147483647) (by omega), mul_int (i := a % 2147483647) (j := 69621) (by omega)]
      exact hC _ _ ⟨ms, _, _, rfl, rfl, rfl⟩
  · rintro ρ s ⟨ms, x, w2, he, rfl, rfl⟩
    simp
    rw [mul_int (by split <;> omega)]
    simp
    exact .k (hQ _ _ ⟨_, rfl, ⟨ns, 0, _, 0, get_app0⟩, Fr.app⟩)
@[simp] theorem append_app2 {a b : SO} {vs : List W} {w : W} {l : List SO} : bmtR .append (.ref (st.length + 2)) (st ++ a :: b :: .lst vs :: l) [w] (st ++ a :: b :: .lst vs :: l) = if vs.length < LIM then .ok .non (st ++ a :: b :: .lst (vs ++ [w]) :: l) else .bad := by
  simp [bmtR, kindW, bmtW]
@[simp] theorem append_app3 {a b c : SO} {vs : List W} {w : W} {l : List SO} : bmtR .append (.ref (st.length + 3)) (st ++ a :: b :: c :: .lst vs :: l) [w] (st ++ a :: b :: c :: .lst vs :: l) = if vs.length < LIM then .ok .non (st ++ a :: b :: c :: .lst (vs ++ [w]) :: l) else .bad := by
  simp [bmtR, kindW, bmtW]
@[simp] theorem append_app5 {a b c e f : SO} {vs : List W} {w : W} {l : List SO} : bmtR .append (.ref (st.length + 5)) (st ++ a :: b :: c :: e :: f :: .lst vs :: l) [w] (st ++ a :: b :: c :: e :: f :: .lst vs :: l) = if vs.length < LIM then .ok .non (st ++ a :: b :: c :: e :: f :: .lst (vs ++ [w]) :: l) else .bad := by
  simp [bmtR, kindW, bmtW]
@[simp] theorem append_app4 {a b c e : SO} {vs : List W} {w : W} {l : List SO} : bmtR .append (.ref (st.length + 4)) (st ++ a :: b :: c :: e :: .lst vs :: l) [w] (st ++ a :: b :: c :: e :: .lst vs :: l) = if vs.length < LIM then .ok .non (st ++ a :: b :: c :: e :: .lst (vs ++ [w]) :: l) else .bad := by
  simp [bmtR, kindW, bmtW]
@[simp] theorem dicR_a : dicR [(.inr (sw 0), sW 37)] st = .ok (.ref st.length) (st ++ [.dic (encN [(0, 37)])]) := (rfl)
@[simp] theorem dicR_ab : dicR [(.inr (sw 0), sW 37), (.inr (sw 1), sW 38)] st = .ok (.ref st.length) (st ++ [.dic (encN [(0, 37), (1, 38)])]) := by
  have := dicR2 (st := st) (x := (0 : Nm)) (y := (1 : Nm)) (j := 37) (i := 38)
  exact this
@[simp] theorem gtR_app0 {call : Call} {n : Nat} {ts : Tgs} {ws : List W} {l : List SO} {ρ : Env} : gtR P call n ts (.ref st.length) ρ (st ++ .lst ws :: l) = if ws.length = n then evGs P call ts ws ρ (st ++ .lst ws :: l) else .bad := by
  simp [gtR, seqOf]
theorem nms_of {i : Nat} {l : NL} (h : st[i]? = some (.dic (encN l))) (nd : NDK l) : Nms st i (l.map (·.1)) := ⟨l, h, nd, fun p hp => List.mem_map_of_mem hp⟩
variable (H : HasL3 P)
include H
theorem handled_is (hk : 120 ≤ k) (D : Dice st d) : Is (callF P k ("_law_handled", none) [.ref d] st) (Drawn d 190 38 st) := by
  refine call_is H.handled (by omega) rfl fun Q hQ => ?_
  have hl := D.lt
  have D0 : ∀ l, Dice (st ++ l) d := fun l => D.fr (M := []) Fr.app (by simp)
  have hn : st.length ∉ [d] := by simp; omega
  have hn1 : st.length + 1 ∉ [d] := by simp; omega
  simp [c__law_handled]
  refine (next_is H.toHasG1 (by omega) (D0 _) 3 (by omega) (by omega)).bnd ?_
  rintro _ s1 ⟨u, rfl, hu, D1, F1, _⟩
  have h0 := F1.get hn get_app0
  have h1 := F1.get hn1 get_app1
  have N1 : Nms s1 st.length [0, 1] := nms_of h0 (by simp [NDK])
  have F01 : Fr [d] st s1 := Fr.app.trans F1
  obtain ⟨r, hr, e⟩ : ∃ r, phi r ≤ 26 ∧ ixW (.ref (st.length + 1)) (.int (u : Int)) s1 = .ok (.int r) s1 := by
    rcases (by omega : u = 0 ∨ u = 1 ∨ u = 2) with h | h | h <;> subst h <;> simp [ix_lst h1] <;> try decide
  simp [e]
  have G2 : GS (s1 ++ [.lst [.int r], .dic (encN [(0, 37)])]) d s1.length r := ⟨D1.fr (M := []) Fr.app (by simp), get_app0⟩
  have N2 : Nms (s1 ++ [.lst [.int r], .dic (encN [(0, 37)])]) (s1.length + 1) [0] := nms_of get_app1 (by simp [NDK])
  have N2' : Nms (s1 ++ [.lst [.int r], .dic (encN [(0, 37)])]) st.length [0, 1] := N1.app _
  have F2 : Fr [d] st (s1 ++ [.lst [.int r], .dic (encN [(0, 37)])]) := F01.trans Fr.app
  have hfresh : ∀ {s : Store}, Fr [d, s1.length] st s → Fr [d] st s := fun {s} F => Fr.fresh (j := s1.length) (M := [d]) (F.wide (by simp)) (by
    cases h : st[s1.length]? with
    | none => rfl
    | some o => 
      by_cases hd : s1.length = d
      · have := D1.lt; omega
      · have := len_of (F01.get (by simpa using hd) h); omega)
  have F2w : Fr [d, s1.length] st (s1 ++ [.lst [.int r], .dic (encN [(0, 37)])]) := F2.wide (by simp)
  generalize s1 ++ [SO.lst [.int r], .dic (encN [(0, 37)])] = s2 at *
  refine (leaf2 H.toHasG2 (by omega) G2 N2).bnd ?_
  rintro _ s3 ⟨lf, rfl, wl, szl, dpl, G3, F3⟩
  replace F2w := F2w.trans F3
  have N3 := N2'.nx G2 F3
  try simp
  have E := expr_at H.toHasG2 26
  refine (E _ _ _ _ _ _ _ hr (by omega) G3 N3).bnd ?_
  rintro _ s4 ⟨ex, r4, rfl, we, G4, F4, hr4, se, de⟩
  replace F2w := F2w.trans F4
  have N4 := N3.nx G3 F4
  have := phi_mono hr4
  try simp
  refine (use_is H.toHasG2 E (by omega) (by omega) G4 N4).bnd ?_
  rintro _ s5 ⟨us, r5, rfl, wu, G5, F5, hr5, su, du⟩
  replace F2w := F2w.trans F5
  try simp
  have N5a : Nms (s5 ++ [.lst [enc ex, .tup [sW 24, .tup [sW 9, sW 1], enc lf], enc us, .tup [sW 25, .tup [sW 9, sW 1]]], .dic (encN [(0, 37)])]) (s5.length + 1) [0] := nms_of get_app1 (by simp [NDK])
  refine (leaf2 H.toHasG2 (by omega) (G5.app _) N5a).bnd ?_
  rintro _ s6 ⟨lf2, rfl, wl2, szl2, dpl2, G6, F6⟩
  have hA := F6.get (i := s5.length) (by have := G5.d.lt; have := G5.r.lt; simp; omega) get_app0
  replace F2w := (F2w.trans Fr.app).trans F6
  try simp
  rw [add_lst (get_app hA _) get_app0 (by simp)]
  have hB := get_app1 (st := s6) (a := .lst [enc lf2, .tup [sW 16, sW 1, .tup [sW 24, .tup [sW 9, sW 1], .tup [sW 8, .int 1]]]]) (o := .lst ([enc ex, .tup [sW 24, .tup [sW 9, sW 1], enc lf], enc us, .tup [sW 25, .tup [sW 9, sW 1]]] ++ [enc lf2, .tup [sW 16, sW 1, .tup [sW 24, .tup [sW 9, sW 1], .tup [sW 8, .int 1]]]])) (l := [])
  simp only [List.cons_append, List.nil_append] at hB
  simp
  replace F2w := F2w.trans (Fr.app (l := [SO.lst [enc lf2, .tup [sW 16, sW 1, .tup [sW 24, .tup [sW 9, sW 1], .tup [sW 8, .int 1]]]], .lst [enc ex, .tup [sW 24, .tup [sW 9, sW 1], enc lf], enc us, .tup [sW 25, .tup [sW 9, sW 1]], enc lf2, .tup [sW 16, sW 1, .tup [sW 24, .tup [sW 9, sW 1], .tup [sW 8, .int 1]]]]]))
  have D7 := G6.d.fr (M := []) (Fr.app (l := [SO.lst [enc lf2, .tup [sW 16, sW 1, .tup [sW 24, .tup [sW 9, sW 1], .tup [sW 8, .int 1]]]], .lst [enc ex, .tup [sW 24, .tup [sW 9, sW 1], enc lf], enc us, .tup [sW 25, .tup [sW 9, sW 1]], enc lf2, .tup [sW 16, sW 1, .tup [sW 24, .tup [sW 9, sW 1], .tup [sW 8, .int 1]]]]])) (by simp)
  have F7 := hfresh F2w
  clear F2w
  have hq : s6.length + 1 ∉ [d] := by have := G6.d.lt; simp; omega
  generalize s6.length + 1 = q at *
  generalize s6 ++ [SO.lst _, SO.lst _] = s7 at *
  have pick : ∀ s (u : Nat), s[q]? = some (.lst [enc ex, .tup [sW 24, .tup [sW 9, sW 1], enc lf], enc us, .tup [sW 25, .tup [sW 9, sW 1]], enc lf2, .tup [sW 16, sW 1, .tup [sW 24, .tup [sW 9, sW 1], .tup [sW 8, .int 1]]]]) → (u : Int) < 6 → ∃ t : Pt, wf [0, 1] t ∧ deep t ≤ 83 ∧ ixW (.ref q) (.int (u : Int)) s = .ok (enc t) s := by
    intro s u hs hu
    rcases (by omega : u = 0 ∨ u = 1 ∨ u = 2 ∨ u = 3 ∨ u = 4 ∨ u = 5) with h | h | h | h | h | h <;> subst h <;> simp [ix_lst hs]
    · exact ⟨ex, we, by omega, rfl⟩
    · exact ⟨.bi .go (.name 1) lf, ⟨by simp [wf], wl.mono (by simp)⟩, by simp [deep]; omega, rfl⟩
    · exact ⟨us, wu, by omega, rfl⟩
    · exact ⟨.un .drop (.name 1), by simp [wf], by simp [deep], rfl⟩
    · exact ⟨lf2, wl2.mono (by simp), by omega, rfl⟩
    · exact ⟨.fnp 1 (.bi .go (.name 1) (.num 1)), by simp [wf, numOk], by simp [deep], rfl⟩
  try simp
  refine (next_is H.toHasG1 (by omega) D7 6 (by omega) (by omega)).bnd ?_
  rintro _ s8 ⟨u8, rfl, hu8, D8, F8, _⟩
  have hB8 := F8.get hq hB
  obtain ⟨t1, w1, d1, e1⟩ := pick s8 u8 hB8 hu8
  simp [e1]
  refine (next_is H.toHasG1 (by omega) D8 6 (by omega) (by omega)).bnd ?_
  rintro _ s9 ⟨u9, rfl, hu9, D9, F9, _⟩
  have hB9 := F9.get hq hB8
  obtain ⟨t2, w2, d2, e2⟩ := pick s9 u9 hB9 hu9
  simp [e2]
  refine (next_is H.toHasG1 (by omega) D9 6 (by omega) (by omega)).bnd ?_
  rintro _ sA ⟨uA, rfl, huA, DA, FA, _⟩
  have hBA := FA.get hq hB9
  obtain ⟨t3, w3, d3, e3⟩ := pick sA uA hBA huA
  simp [e3]
  have FF : Fr [d] st sA := ((F7.trans F8).trans F9).trans FA
  clear hB hB8 hB9 hBA pick e1 e2 e3 F7 F8 F9 FA
  rw [add_lst get_app1 get_app2 (by simp)]
  simp
  rw [add_lst get_app3 get_app4 (by simp)]
  simp
  refine (next_is H.toHasG1 (by omega) (DA.fr (M := []) Fr.app (by simp)) 13 (by omega) (by omega)).bnd ?_
  rintro _ sB ⟨uB, rfl, huB, DB, FB, _⟩
  have hS := FB.get (i := sA.length + 5) (by have := DA.lt; simp; omega) get_app5
  replace FF : Fr [d] st sB := FF.trans (Fr.app.trans FB)
  have m2 : ∀ {t : Pt} (x : Nm), wf [0, 1] t → wf (x :: [0, 1]) t := fun x h => h.mono (by intro z hz; exact List.mem_cons_of_mem _ hz)
  have m3 : ∀ {t : Pt} (x y : Nm), wf [0, 1] t → wf (x :: y :: [0, 1]) t := fun x y h => h.mono (by intro z hz; exact List.mem_cons_of_mem _ (List.mem_cons_of_mem _ hz))
  obtain ⟨h, wh, dh, eh⟩ : ∃ h : Pt, wf [0, 1] h ∧ deep h ≤ 90 ∧ ixW (.ref (sA.length + 5)) (.int (uB : Int)) sB = .ok (enc h) sB := by
    rcases (by omega : uB = 0 ∨ uB = 1 ∨ uB = 2 ∨ uB = 3 ∨ uB = 4 ∨ uB = 5 ∨ uB = 6 ∨ uB = 7 ∨ uB = 8 ∨ uB = 9 ∨ uB = 10 ∨ uB = 11 ∨ uB = 12) with h | h | h | h | h | h | h | h | h | h | h | h | h <;> subst h <;> simp [ix_lst hS]
    · exact ⟨t1, w1, by omega, rfl⟩
    · exact ⟨.bi .add t1 t2, ⟨w1, w2⟩, by simp [deep]; omega, rfl⟩
    · exact ⟨.ite t3 t1 t2, ⟨w3, w1, w2⟩, by simp [deep]; omega, rfl⟩
    · exact ⟨.letp 2 t1 t2, ⟨w1, m2 _ w2⟩, by simp [deep]; omega, rfl⟩
    · exact ⟨.bi .els t1 t2, ⟨w1, w2⟩, by simp [deep]; omega, rfl⟩
    · exact ⟨.bi .last t1 t2, ⟨w1, w2⟩, by simp [deep]; omega, rfl⟩
    · exact ⟨.letp 1 t1 t2, ⟨w1, m2 _ w2⟩, by simp [deep]; omega, rfl⟩
    · exact ⟨.cat t1 2 1 t2, ⟨by decide, w1, m3 _ _ w2⟩, by simp [deep]; omega, rfl⟩
    · exact ⟨.cat t1 1 2 t2, ⟨by decide, w1, m3 _ _ w2⟩, by simp [deep]; omega, rfl⟩
    · exact ⟨.bi .call (.fnp 2 t1) t2, ⟨m2 _ w1, w2⟩, by simp [deep]; omega, rfl⟩
    · exact ⟨.bi .go t1 t2, ⟨w1, w2⟩, by simp [deep]; omega, rfl⟩
    · exact ⟨.cat t1 2 3 t2, ⟨by decide, w1, m3 _ _ w2⟩, by simp [deep]; omega, rfl⟩
    · exact ⟨.un .throw t1, w1, by simp [deep]; omega, rfl⟩
  simp [eh]
  clear hS eh e
  refine (next_is H.toHasG1 (by omega) DB 2 (by omega) (by omega)).bnd ?_
  rintro _ sC ⟨uC, rfl, huC, DC, FC, _⟩
  replace FF := FF.trans FC
  simp
  generalize hqs : sA.length = qs at *
  refine Is.br (fun ρ s => s = sC ∧ ∃ h2 : Pt, wf [0, 1] h2 ∧ deep h2 ≤ 91 ∧ ∃ w1 w2 w3 w4 w5 w7 w8 w9 w10 w11 w12, ρ = [some (.ref d), w1, w2, w3, w4, w5, some (enc h2), w7, w8, w9, w10, w11, w12]) ?_ ?_ ?_
  · intro _ C hC
    simp
    exact hC _ _ ⟨rfl, .bi .add (.un .say (.name 0)) h, ⟨by simp [wf], wh⟩, by simp [deep]; omega, _, _, _, _, _, _, _, _, _, _, _, rfl⟩
  · intro _ C hC
    simp
    exact hC _ _ ⟨rfl, h, wh, by omega, _, _, _, _, _, _, _, _, _, _, _, rfl⟩
  rintro _ sC ⟨rfl, h2, wh2, dh2, v1, v2, v3, v4, v5, v7, v8, v9, v10, v11, v12, rfl⟩
  simp
  have Nc : Nms (sC ++ [.dic (encN [])]) sC.length [] := nms_nil
  refine (leaf_is H.toHasG1 (by omega) (DC.fr (M := []) Fr.app (by simp)) Nc).bnd ?_
  rintro _ sD ⟨la, rfl, wla, sla, dla, DD, FD⟩
  try simp
  have Nd : Nms (sD ++ [.dic (encN [])]) sD.length [] := nms_nil
  refine (leaf_is H.toHasG1 (by omega) (DD.fr (M := []) Fr.app (by simp)) Nd).bnd ?_
  rintro _ sE ⟨lb, rfl, wlb, slb, dlb, DE, FE⟩
  replace FF : Fr [d] st sE := ((FF.trans (Fr.app.trans FD)).trans (Fr.app.trans FE))
  have he : ∀ t : Pt, W.tup [sW 22, .tup [sW 26, .tup [sW 11, .tup [sW 23, enc la], enc lb], .tup [sW 18, .tup [sW 8, .int 3]]], sW 0, sW 1, enc t] = enc (.cat (.bi .last (.bi .add (.un .throw la) lb) (.un .say (.num 3))) 0 1 t) := fun t => rfl
  have he0 : W.tup [sW 22, .tup [sW 26, .tup [sW 11, .tup [sW 23, enc la], enc lb], .tup [sW 18, .tup [sW 8, .int 3]]], sW 0, sW 1, .tup [sW 9, sW 0]] = enc (.cat (.bi .last (.bi .add (.un .throw la) lb) (.un .say (.num 3))) 0 1 (.name 0)) := rfl
  have wb : wf [] (.bi .last (.bi .add (.un .throw la) lb) (.un .say (.num 3))) := ⟨⟨wla, wlb⟩, by simp [wf, numOk]⟩
  simp [he, he0]
  have hfull : wf [] (.cat (.bi .last (.bi .add (.un .throw la) lb) (.un .say (.num 3))) 0 1 h2) := ⟨by decide, wb, wh2⟩
  have hsmall : ∀ s, Fr [] sE s → Q (enc (.cat (.bi .last (.bi .add (.un .throw la) lb) (.un .say (.num 3))) 0 1 (.name 0))) s := fun s F => hQ _ _ ⟨_, rfl, ⟨by decide, wb, by simp [wf]⟩, by simp [size]; omega, by simp [deep]; omega, DE.fr F (by simp), FF.trans (F.wide (by simp))⟩
  have hbig : ∀ s, Fr [] sE s → size (.cat (.bi .last (.bi .add (.un .throw la) lb) (.un .say (.num 3))) 0 1 h2) ≤ 190 → deep (.cat (.bi .last (.bi .add (.un .throw la) lb) (.un .say (.num 3))) 0 1 h2) ≤ 38 → Q (enc (.cat (.bi .last (.bi .add (.un .throw la) lb) (.un .say (.num 3))) 0 1 h2)) s := fun s F h1 h2 => hQ _ _ ⟨_, rfl, hfull, h1, h2, DE.fr F (by simp), FF.trans (F.wide (by simp))⟩
  have hdp : deep (.cat (.bi .last (.bi .add (.un .throw la) lb) (.un .say (.num 3))) 0 1 h2) ≤ 100 := by simp [deep]; omega
  generalize Pt.cat (.bi .last (.bi .add (.un .throw la) lb) (.un .say (.num 3))) 0 1 (.name 0) = small at *
  generalize Pt.cat (.bi .last (.bi .add (.un .throw la) lb) (.un .say (.num 3))) 0 1 h2 = big at *
  refine (size_is H.toHasG4 big _ _ (by omega)).bnd ?_
  rintro _ sF ⟨rfl, FF2⟩
  simp
  by_cases hs : size big ≤ 190
  · simp [show (size big : Int) ≤ 190 by omega]
    refine (deep_is H.toHasG4 big _ _ (by omega)).bnd ?_
    rintro _ sG ⟨rfl, FG⟩
    simp
    by_cases hd : deep big ≤ 38
    · simp [show (deep big : Int) ≤ 38 by omega]
      exact .k (hbig _ (FF2.trans FG) hs hd)
    · simp [show ¬ (deep big : Int) ≤ 38 by omega]
      exact .k (hsmall _ (FF2.trans FG))
  · simp [show ¬ (size big : Int) ≤ 190 by omega]
    exact .k (hsmall _ FF2)
end
end PL


set_option linter.all false
set_option maxRecDepth 100000
set_option autoImplicit false
namespace PL
open MP
open PySem (Str)
structure HasL4 (P : Prog) : Prop extends HasL3 P where
  tall : P.fn ("_law_tall", none) = some c__law_tall
section
variable {P : Prog} {k : Nat} {st : Store} {d n m : Nat} {g : List Nm} {r : Int}
theorem eq_enc {a b : Pt} (ha : deep a ≤ 60) (hb : deep b ≤ 60) : ∃ c, cop .eq (enc a) (enc b) st = .ok (.bl c) st := ⟨_, by simp [cop, eqW, toD_enc a 60 ha, toD_enc b 60 hb]; rfl⟩
variable (H : HasL4 P)
include H
theorem tall_is (hk : 60 ≤ k) (D : Dice st d) : Is (callF P k ("_law_tall", none) [.ref d] st) (Drawn d 190 39 st) := by
  refine call_is H.tall (by omega) rfl fun Q hQ => ?_
  have hl := D.lt
  have D0 : ∀ l, Dice (st ++ l) d := fun l => D.fr (M := []) Fr.app (by simp)
  have hn : st.length ∉ [d] := by simp; omega
  simp [c__law_tall]
  refine (next_is H.toHasG1 (by omega) (D0 _) 2 (by omega) (by omega)).bnd ?_
  rintro _ s1 ⟨u, rfl, hu, D1, F1, _⟩
  have h0 := F1.get hn get_app0
  have F01 : Fr [d] st s1 := Fr.app.trans F1
  obtain ⟨t0, w0, z0, d0, e⟩ : ∃ t : Pt, wf [] t ∧ size t ≤ 2 ∧ deep t ≤ 2 ∧ ixW (.ref st.length) (.int (u : Int)) s1 = .ok (enc t) s1 := by
    rcases (by omega : u = 0 ∨ u = 1) with h | h <;> subst h <;> simp [ix_lst h0]
    · exact ⟨.num 1, by simp [wf, numOk], by simp [size], by simp [deep], rfl⟩
    · exact ⟨.un .throw (.num 2), by simp [wf, numOk], by simp [size], by simp [deep], rfl⟩
  simp [e]
  refine (next_is H.toHasG1 (by omega) (D1.fr (M := []) Fr.app (by simp)) 2 (by omega) (by omega)).bnd ?_
  rintro _ s2 ⟨u2, rfl, hu2, D2, F2, _⟩
  have hg := F2.get (i := s1.length) (by have := D1.lt; simp; omega) get_app0
  have h1 := F2.get (i := s1.length + 1) (by have := D1.lt; simp; omega) get_app1
  have F02 : Fr [d] st s2 := F01.trans (Fr.app.trans F2)
  obtain ⟨i, hi0, hi, e2⟩ : ∃ i : Int, 0 < i ∧ i ≤ 36 ∧ ixW (.ref (s1.length + 1)) (.int (u2 : Int)) s2 = .ok (.int i) s2 := by
    rcases (by omega : u2 = 0 ∨ u2 = 1) with h | h <;> subst h <;> simp [ix_lst h1]
  simp [e2]
  refine (next_is H.toHasG1 (by omega) D2 i (by omega) (by omega)).bnd ?_
  intro w s3 hx
  obtain ⟨u3, hw, hu3, D3, F3, _⟩ := hx
  subst hw
  replace hg := F3.get (by have := D1.lt; simp; omega) hg
  have F03 := F02.trans F3
  have hq : s1.length ∉ [d] := by have := D1.lt; simp; omega
  generalize s1.length = q at *
  have er : rngR (.int (1 + (u3 : Int))) s3 = .ok ⟨(List.range (u3 + 1)).map fun (i : Nat) => .int i, []⟩ s3 := by
    have := rngR_i (n := u3 + 1) (st := s3) (by omega)
    rw [show ((u3 + 1 : Nat) : Int) = 1 + (u3 : Int) by omega] at this
    exact this
  simp [er]
  clear e e2 er h0 h1 F1 F2 F3 F01 F02 D1 D2
  refine loopF_is (fun l ρ s => ∃ (i : Nat) (t : Pt) (w3 w4 w5 w6 : Option W), i ≤ u3 + 1 ∧ l = (List.range' i (u3 + 1 - i)).map (fun (i : Nat) => W.int (i : Int)) ∧ ρ = [some (.ref d), some (enc t), some (.ref q), w3, w4, w5, w6] ∧ wf [] t ∧ size t ≤ 190 ∧ deep t ≤ i + 3 ∧ Dice s d ∧ Fr [d] st s ∧ s[q]? = some (.lst [.tup [sW 24, .tup [sW 9, sW 1], .tup [sW 8, .int 1]], .tup [sW 9, sW 0], .tup [sW 25, .tup [sW 9, sW 1]], .tup [sW 8, .int 7], .tup [sW 16, sW 2, .tup [sW 24, .tup [sW 9, sW 1], .tup [sW 9, sW 0]]]])) ?_ ?_ ?_ _ _ _ ⟨0, t0, _, _, _, _, by omega, by simp [List.range_eq_range'], rfl, w0, by omega, by omega, D3, F03, hg⟩
  · rintro l ρ s ⟨i, t, w3, w4, w5, w6, hi, rfl, rfl, _⟩
    simp
  · rintro w r ρ s ⟨i, t, w3, w4, w5, w6, hi, he, rfl, wt, zt, dt, D, F, hg⟩ C hC
    by_cases hlt : i < u3 + 1
    · rw [show u3 + 1 - i = (u3 + 1 - (i + 1)) + 1 by omega, List.range'_succ, List.map_cons, List.cons.injEq] at he
      obtain ⟨rfl, rfl⟩ := he
      simp
      refine (next_is H.toHasG1 (by omega) (D.fr (M := []) Fr.app (by simp)) 2 (by omega) (by omega)).bnd ?_
      rintro _ s4 ⟨u4, rfl, hu4, D4, F4, _⟩
      have hb := F4.get (i := s.length) (by have := D.lt; simp; omega) get_app0
      replace hg := F4.get hq (get_app hg _)
      replace F := F.trans (Fr.app.trans F4)
      obtain ⟨b, wb, zb, db, eb⟩ : ∃ b : Pt, wf [] b ∧ size b ≤ 190 ∧ deep b ≤ i + 3 ∧ ixW (.ref s.length) (.int (u4 : Int)) s4 = .ok (enc b) s4 := by
        rcases (by omega : u4 = 0 ∨ u4 = 1) with h | h <;> subst h <;> simp [ix_lst hb]
        · exact ⟨t, wt, zt, dt, rfl⟩
        · exact ⟨.un .throw (.num i), by unfold wf wf numOk; omega, by simp [size], by simp [deep], rfl⟩
      simp [eb]
      obtain ⟨c, ec⟩ := eq_enc (st := s4) (a := b) (b := t) (by omega) (by omega)
      rw [ec]
      simp
      have rest : ∀ (h : Pt) s5, wf [0, 1] h → deep h ≤ i + 3 → Dice s5 d → Fr [d] s4 s5 → Is ((callF P (k - 1) ("_law_size", none) [.tup [sW 22, enc b, sW 0, sW 1, enc h]] s5).bind fun a st => (cop .le a (.int 190) st).bind fun a_1 st => (tst (fun k st => cnd k (fun _ => R.ok (.tup [sW 22, enc b, sW 0, sW 1, enc h]) st) fun _ => R.ok (enc t) st) a_1 st).bind fun a_2 st => fin (C [some (.ref d), some a_2, some (.ref q), some (.int i), some (enc b), some (enc h), some (.tup [sW 22, enc b, sW 0, sW 1, enc h])] st)) Q := by
        intro h s5 wh dh D5 F5
        have hdd : deep (.cat b 0 1 h) ≤ i + 4 := by simp [deep]; omega
        refine (size_is H.toHasG4 (.cat b 0 1 h) (k - 1) s5 (by omega)).bnd ?_
        rintro _ s6 ⟨rfl, F6⟩
        have h6 := F6.get (by simp) (F5.get hq hg)
        have FF := (F.trans F5).trans (F6.wide (by simp))
        simp
        by_cases hs : size (.cat b 0 1 h) ≤ 190
        · simp [show (size (.cat b 0 1 h) : Int) ≤ 190 by omega]
          exact hC _ _ ⟨i + 1, .cat b 0 1 h, _, _, _, _, by omega, rfl, rfl, ⟨by decide, wb, wh⟩, hs, by omega, D5.fr F6 (by simp), FF, h6⟩
        · simp [show ¬ (size (.cat b 0 1 h) : Int) ≤ 190 by omega]
          exact hC _ _ ⟨i + 1, t, _, _, _, _, by omega, rfl, rfl, wt, zt, by omega, D5.fr F6 (by simp), FF, h6⟩
      cases c with
      | false =>
        simp
        exact rest t s4 (wt.mono (by simp)) dt D4 Fr.refl
      | true =>
        simp
        refine (next_is H.toHasG1 (by omega) D4 5 (by omega) (by omega)).bnd ?_
        rintro _ s5 ⟨u5, rfl, hu5, D5, F5, _⟩
        have hg5 := F5.get hq hg
        obtain ⟨h, wh, dh, eh⟩ : ∃ h : Pt, wf [0, 1] h ∧ deep h ≤ 3 ∧ ixW (.ref q) (.int (u5 : Int)) s5 = .ok (enc h) s5 := by
          rcases (by omega : u5 = 0 ∨ u5 = 1 ∨ u5 = 2 ∨ u5 = 3 ∨ u5 = 4) with h | h | h | h | h <;> subst h <;> simp [ix_lst hg5]
          · exact ⟨.bi .go (.name 1) (.num 1), by simp [wf, numOk], by simp [deep], rfl⟩
          · exact ⟨.name 0, by simp [wf], by simp [deep], rfl⟩
          · exact ⟨.un .drop (.name 1), by simp [wf], by simp [deep], rfl⟩
          · exact ⟨.num 7, by simp [wf, numOk], by simp [deep], rfl⟩
          · exact ⟨.fnp 2 (.bi .go (.name 1) (.name 0)), by simp [wf], by simp [deep], rfl⟩
        simp [eh]
        exact rest h s5 wh (by omega) D5 F5
    · rw [show u3 + 1 - i = 0 by omega] at he
      cases he
  · rintro ρ s ⟨i, t, w3, w4, w5, w6, hi, he, rfl, wt, zt, dt, D, F, hg⟩
    simp
    exact .k (hQ _ _ ⟨t, rfl, wt, zt, by omega, D, F⟩)
end
end PL


set_option linter.all false
set_option maxRecDepth 100000
set_option autoImplicit false
namespace PL
open MP
open PySem (Str)
structure HasK14 (P : Prog) : Prop where
  g : HasL4 P
  n : HasN7 P
  l : HasL2 P
  law : P.fn ("law", none) = some c_law
section
variable {P : Prog} {k : Nat} {st : Store} {d n m : Nat}
variable (H : HasK14 P)
include H
theorem k14_law (hk : 200 ≤ k) (ns : List Int) : Is (callF P k ("law", none) [.fro (ns.map .int)] []) fun w st' => w = .bl true := by
  refine call_is H.law (by omega) rfl fun Q hQ => ?_
  have hg1 := H.g.toHasG1
  simp [c_law]
  refine (dice_is hg1 (by omega) ns).bnd ?_
  rintro _ s0 ⟨d, rfl, D, _⟩
  have er : ∀ st, rngR (.int 6) st = .ok ⟨(List.range 6).map fun (i : Nat) => W.int i, []⟩ st := fun st => rngR_i (n := 6) (by omega)
  simp [er]
  refine loopF_is (fun l ρ s => ∃ (w2 w3 w4 w5 w6 w7 : Option W), ρ = [some (.fro (ns.map .int)), some (.ref d), w2, w3, w4, w5, w6, w7] ∧ Dice s d) ?_ ?_ ?_ _ _ _ ⟨_, _, _, _, _, _, rfl, D⟩
  · rintro l ρ s ⟨w2, w3, w4, w5, w6, w7, rfl, D⟩
    try simp
  · rintro w r ρ s ⟨w2, w3, w4, w5, w6, w7, rfl, D⟩ C hC
    try simp
    refine (next_is hg1 (by omega) D 3 (by omega) (by omega)).bnd ?_
    rintro _ s1 ⟨u1, rfl, hu1, D1, F1, _⟩
    try simp
    have st1 : Is (cnd (decide (u1 = 0)) (fun _ => callF P (k - 1) ("_law_any", none) [.ref d] s1) (fun _ => callF P (k - 1) ("_law_handled", none) [.ref d] s1)) (Drawn d 200 41 s1) := by
      by_cases h : u1 = 0
      · simp [h]
        exact any_is (k := k - 1) H.g.toHasG6 (by omega) D1
      · simp [h]
        exact (handled_is (k := k - 1) H.g.toHasL3 (by omega) D1).mono fun w st' h => h.mono H.g.toHasG6 (by omega) (by omega)
    refine st1.bnd ?_
    rintro _ s2 ⟨t1, rfl, wt1, zt1, dt1, D2, F2⟩
    try simp
    refine (next_is hg1 (by omega) D2 4 (by omega) (by omega)).bnd ?_
    rintro _ s3 ⟨u3, rfl, hu3, D3, F3, _⟩
    try simp
    refine Is.br (fun ρ s => ∃ t : Pt, wf [] t ∧ size t ≤ 200 ∧ deep t ≤ 41 ∧ ρ = [some (.fro (ns.map .int)), some (.ref d), some w, some (enc t), w4, w5, w6, w7] ∧ Dice s d) ?_ ?_ ?_
    · intro _ C hC
      try simp
      refine (tall_is (k := k - 1) H.g (by omega) D3).bnd ?_
      rintro _ s4 ⟨t, rfl, wt, zt, dt, D4, F4⟩
      try simp
      exact hC _ _ ⟨t, wt, by omega, by omega, rfl, D4⟩
    · intro _ C hC
      try simp
      exact hC _ _ ⟨t1, wt1, by omega, by omega, rfl, D3⟩
    rintro _ s4 ⟨t2, wt2, zt2, dt2, rfl, D4⟩
    try simp
    refine (next_is hg1 (by omega) D4 4 (by omega) (by omega)).bnd ?_
    rintro _ s5 ⟨u5, rfl, hu5, D5, F5, _⟩
    try simp
    have rest : ∀ (t : Pt) s, wf [] t → size t ≤ 200 → deep t ≤ 41 → Dice s d → Is (fin ((evB P (callF P (k - 1)) (.cons (.asg (.name 4) (.call "_law_papers" (.cons (.var 3) .nil))) (.cons (.for (.name 5) (.range1 (.cst (.int 2))) (.cons (.asg (.name 7) (.call "papers" (.cons (.var 3) .nil))) (.cons (.ite (.not (.call "_law_like" (.cons (.var 7) (.cons (.var 4) .nil)))) (.cons (.ret (.cst (.bl false))) .nil) .nil) (.cons (.exp (.bmt .append (.var 7) (.cons (.cst .non) .nil))) .nil)))) (.cons (.for (.name 6) (.range1 (.blt .len (.cons (.var 4) .nil))) (.cons (.ite (.and (.cmp .isnot (.ix (.var 4) (.var 6)) (.cst .non)) (.not (.call "_law_like" (.cons (.call "shows" (.cons (.var 3) (.cons (.var 6) (.cons (.ix (.var 4) (.var 6)) .nil)))) (.cons (.cst (.bl true)) .nil))))) (.cons (.ret (.cst (.bl false))) .nil) .nil) .nil)) .nil))) [some (.fro (ns.map .int)), some (.ref d), some w, some (enc t), w4, w5, w6, w7] s).bind C)) Q := by
      intro t s wt zt dt D
      try simp
      refine (lpapers_is (k := k - 1) H.l (by omega) t zt dt).bnd ?_
      rintro _ s1 ⟨p, rfl, hp, hpn, F1⟩
      have hdp : d ≠ p := fun e => by subst e; have := D.lt; simp at hpn; omega
      have D1 := D.fr F1 (by simp)
      have hlen : ((catsT t).map pOne).length ≤ 200 := by have := cats_len t; simp; omega
      have hpl := plD_one dt
      try simp
      refine (papers_is (k := k - 1) H.n (by omega) t wt zt dt).bnd ?_
      rintro _ s2 ⟨q, rfl, hq, hqn, F2⟩
      have hp2 := F2.get (by simp) hp
      have hpq : p ≠ q := fun e => by subst e; rw [hp] at hqn; cases hqn
      have hdq : d ≠ q := fun e => by subst e; have := D1.lt; simp at hqn; omega
      simp [like_refs H.l 82 hpl (by omega) hq hp2 (k := k - 1) (by omega)]
      rw [append_ref hq hq (by simp at hlen ⊢; omega)]
      have hp3 : (s2.set q (.lst ((catsT t).map pOne ++ [.non])))[p]? = some (.lst ((catsT t).map pOne)) := by
        rw [List.getElem?_set_ne (fun e => hpq e.symm)]
        exact hp2
      have D3 := (D1.fr F2 (by simp)).fr (Fr.set (M := [q]) (i := q) (o := .lst ((catsT t).map pOne ++ [.non])) (by simp)) (by simpa using hdq)
      simp
      generalize s2.set q (SO.lst _) = s3 at *
      refine (papers_is (k := k - 1) H.n (by omega) t wt zt dt).bnd ?_
      rintro _ s4 ⟨q2, rfl, hq2, hqn2, F4⟩
      have hp4 := F4.get (by simp) hp3
      have hpq2 : p ≠ q2 := fun e => by subst e; rw [hp3] at hqn2; cases hqn2
      have hdq2 : d ≠ q2 := fun e => by subst e; have := D3.lt; simp at hqn2; omega
      simp [like_refs H.l 82 hpl (by omega) hq2 hp4 (k := k - 1) (by omega)]
      rw [append_ref hq2 hq2 (by simp at hlen ⊢; omega)]
      have hp5 : (s4.set q2 (.lst ((catsT t).map pOne ++ [.non])))[p]? = some (.lst ((catsT t).map pOne)) := by
        rw [List.getElem?_set_ne (fun e => hpq2 e.symm)]
        exact hp4
      have D5 := (D3.fr F4 (by simp)).fr (Fr.set (M := [q2]) (i := q2) (o := .lst ((catsT t).map pOne ++ [.non])) (by simp)) (by simpa using hdq2)
      simp
      generalize s4.set q2 (SO.lst _) = s5 at *
      simp only [List.length_map] at hlen
      simp [len_ref hp5, rngR_i (n := (catsT t).length) (by omega)]
      refine loopF_is (fun l ρ s => ∃ (i : Nat) (v5 w6 v7 : Option W), i ≤ (catsT t).length ∧ l = (List.range' i ((catsT t).length - i)).map (fun (i : Nat) => W.int (i : Int)) ∧ ρ = [some (.fro (ns.map .int)), some (.ref d), some w, some (enc t), some (.ref p), v5, w6, v7] ∧ Dice s d ∧ s[p]? = some (.lst ((catsT t).map pOne))) ?_ ?_ ?_ _ _ _ ⟨0, _, _, _, by omega, by simp [List.range_eq_range'], rfl, D5, hp5⟩
      · rintro l ρ s ⟨i, v5, w6, v7, hi, rfl, rfl, _⟩
        simp
      · rintro w0 r ρ s ⟨i, v5, w6, v7, hi, he, rfl, D, hp⟩ C2 hC2
        by_cases hlt : i < (catsT t).length
        · rw [show (catsT t).length - i = ((catsT t).length - (i + 1)) + 1 by omega, List.range'_succ, List.map_cons, List.cons.injEq] at he
          obtain ⟨rfl, rfl⟩ := he
          have hg := List.getElem?_eq_getElem hlt
          have hat : at? ((catsT t).map pOne) (i : Int) = some (pOne (catsT t)[i]) := at_nat (by rw [List.getElem?_map, hg]; rfl)
          have nx : ∀ s', Dice s' d → s'[p]? = some (.lst ((catsT t).map pOne)) → Is (fin (C2 [some (.fro (ns.map .int)), some (.ref d), some w, some (enc t), some (.ref p), v5, some (.int i), v7] s')) Q := fun s' D' hp' => hC2 _ _ ⟨i + 1, v5, _, v7, by omega, rfl, rfl, D', hp'⟩
          simp [ix_lst hp, hat]
          by_cases hc : wordT (catsT t)[i].b (some (catsT t)[i].y) = none
          · simp [pOne, hc]
            exact nx s D hp
          · simp [pOne, hc, show isNil (papT (catsT t)[i].b (some (catsT t)[i].y)) = false by rw [papT_eq]; rfl]
            refine (shows_is (k := k - 1) H.n (by omega) t wt zt dt hg hc).bnd ?_
            rintro _ s6 ⟨rfl, F6⟩
            simp [like_true H.l (k := k - 1) (by omega)]
            exact nx _ (D.fr F6 (by simp)) (F6.get (by simp) hp)
        · rw [show (catsT t).length - i = 0 by omega] at he
          cases he
      · rintro ρ s ⟨i, v5, w6, v7, hi, he, rfl, D, hp⟩
        exact hC _ _ ⟨_, _, _, _, _, _, rfl, D⟩
    have cond : Is (cnd (decide (u5 = 0)) (fun _ => (callF P (k - 1) ("_law_size", none) [enc t2] s5).bind fun a st => (cop .le a (.int 190) st).bind fun a st => (tst (fun c st => cnd c (fun _ => (callF P (k - 1) ("_law_deep", none) [enc t2] st).bind fun a st => (cop .le a (.int 38) st).bind (tst fun d st => R.ok (W.bl d) st)) (fun _ => R.ok (W.bl false) st)) a st).bind (tst fun d st => R.ok (W.bl d) st)) (fun _ => R.ok (W.bl false) s5)) (fun w s' => ∃ b, w = .bl b ∧ Fr [] s5 s' ∧ (b = true → size t2 ≤ 190 ∧ deep t2 ≤ 38)) := by
      by_cases h0 : u5 = 0
      · simp only [h0, decide_true, cnd_t]
        refine (size_is H.g.toHasG4 t2 (k - 1) s5 (by omega)).bnd ?_
        rintro _ s6 ⟨rfl, F6⟩
        by_cases h1 : size t2 ≤ 190
        · simp only [le_int, bind_ok, tst_bl, show decide ((size t2 : Int) ≤ 190) = true from decide_eq_true (by omega), cnd_t]
          refine Is.bnd (Q := fun w s' => ∃ b, w = .bl b ∧ Fr [] s5 s' ∧ (b = true → size t2 ≤ 190 ∧ deep t2 ≤ 38)) ?_ ?_
          · refine (deep_is H.g.toHasG4 t2 (k - 1) s6 (by omega)).bnd ?_
            rintro _ s7 ⟨rfl, F7⟩
            simp only [le_int, bind_ok, tst_bl]
            exact .k ⟨_, rfl, F6.trans F7, fun h => ⟨h1, by have := of_decide_eq_true h; omega⟩⟩
          · rintro _ s8 ⟨b, rfl, F8, hb⟩
            exact .k ⟨b, rfl, F8, hb⟩
        · simp only [le_int, bind_ok, tst_bl, show decide ((size t2 : Int) ≤ 190) = false from decide_eq_false (by omega), cnd_f]
          exact .k ⟨_, rfl, F6, by simp⟩
      · simp only [h0, decide_false, cnd_f]
        exact .k ⟨false, rfl, Fr.refl, by simp⟩
    refine cond.bnd ?_
    rintro _ s6 ⟨b, rfl, F6, hb⟩
    have D6 := D5.fr F6 (by simp)
    refine Is.br (fun ρ s => ∃ t : Pt, wf [] t ∧ size t ≤ 200 ∧ deep t ≤ 41 ∧ ρ = [some (.fro (ns.map .int)), some (.ref d), some w, some (enc t), w4, w5, w6, w7] ∧ Dice s d) ?_ ?_ ?_
    · intro hbt C hC
      obtain ⟨hs, hd⟩ := hb hbt
      simp
      exact hC _ _ ⟨.cat (.bi .add t2 (.un .throw (.num 2))) 2 1 (.bi .go (.name 1) (.num 1)), ⟨by decide, ⟨wt2, by simp [wf, numOk]⟩, by simp [wf, numOk]⟩, by simp [size]; omega, by simp [deep]; omega, rfl, D6⟩
    · intro _ C hC
      simp
      exact hC _ _ ⟨t2, wt2, zt2, dt2, rfl, D6⟩
    rintro _ s7 ⟨t, wt, zt, dt, rfl, D7⟩
    have h := rest t s7 wt zt dt D7
    simp at h ⊢
    exact h
  · rintro ρ s ⟨w2, w3, w4, w5, w6, w7, rfl, D⟩
    try simp
    exact .k (hQ _ _ rfl)
end
end PL


set_option linter.all false
set_option maxRecDepth 100000
namespace Cd
open MP PL
open PySem (Str)
def fn0 : List (FK × Df) := [(("is_number", none), c_is_number), (("is_kind", none), c_is_kind), (("has_shape", none), c_has_shape), (("names_in", none), c_names_in), (("fault_of", none), c_fault_of), (("inner", none), c_inner)]
def fn1 : List (FK × Df) := [(("need_program", none), c_need_program), (("Counter", some "__init__"), c_Counter___init__), (("Counter", some "node"), c_Counter_node), (("numbered", none), c_numbered), (("nodes", none), c_nodes), (("behind", none), c_behind)]
def fn2 : List (FK × Df) := [(("either", none), c_either), (("inner_of", none), c_inner_of), (("uses", none), c_uses), (("word_of", none), c_word_of), (("paper_of", none), c_paper_of), (("is_paper", none), c_is_paper)]
def fn3 : List (FK × Df) := [(("shows_it", none), c_shows_it), (("papers", none), c_papers), (("shows", none), c_shows), (("_law_dice", none), c__law_dice), (("_law_next", none), c__law_next), (("_law_like", none), c__law_like)]
def fn4 : List (FK × Df) := [(("_law_name", none), c__law_name), (("_law_leaf", none), c__law_leaf), (("_law_with", none), c__law_with), (("_law_free", none), c__law_free), (("_law_expr", none), c__law_expr), (("_law_let", none), c__law_let)]
def fn5 : List (FK × Df) := [(("_law_use", none), c__law_use), (("_law_catch", none), c__law_catch), (("_law_size", none), c__law_size), (("_law_deep", none), c__law_deep), (("_law_program", none), c__law_program), (("_law_loop", none), c__law_loop)]
def fn6 : List (FK × Df) := [(("_law_again", none), c__law_again), (("_law_long", none), c__law_long), (("_law_any", none), c__law_any), (("_law_join", none), c__law_join), (("_law_paper", none), c__law_paper), (("_law_catches", none), c__law_catches)]
def fn7 : List (FK × Df) := [(("_law_papers", none), c__law_papers), (("_law_handled", none), c__law_handled), (("_law_tall", none), c__law_tall), (("law", none), c_law)]
def gl : List (Str × W) := [("SHAPES", W.gd shp), ("NAMES", W.tup [W.str (sw 0), W.str (sw 1), W.str (sw 2), W.str (sw 3), W.str (sw 4), W.str (sw 5), W.str (sw 6), W.str (sw 7)]), ("MOST_NUMBER", W.int (1000000)), ("MOST_PARTS", W.int (200)), ("MOST_DEEP", W.int (40)), ("QUIET", W.str (sw 39)), ("FREE", W.str (sw 40)), ("USED", W.str (sw 41)), ("ORDER", W.tup [W.str (sw 39), W.str (sw 40), W.str (sw 41)]), ("LOUD", W.tup [W.str (sw 17), W.str (sw 24), W.str (sw 25), W.str (sw 23)])]
def fl : List (Str × List Str) := [("Counter", ["seen"])]
def P : Prog := ⟨fn0 ++ fn1 ++ fn2 ++ fn3 ++ fn4 ++ fn5 ++ fn6 ++ fn7, fl, gl, 100000⟩
end Cd


set_option Elab.async false
set_option linter.all false
set_option maxRecDepth 100000
set_option maxHeartbeats 0
namespace Hd
open PySem PySem.Spec PyProof.Rows L2
theorem run (w : World) : HandSHeadRun.RunEq R qv hk ob 4000 loose w := PySem.W.byRow2 "special-get-raises" (P := fun w => HandSHeadRun.RunEq R qv hk ob 4000 loose w) (fun w => by intro os; kernel_rfl) (fun w => by intro os; kernel_rfl) w
end Hd


set_option Elab.async false
set_option linter.all false
set_option maxRecDepth 100000
set_option maxHeartbeats 0
namespace Hd
open PySem PySem.Spec PyProof.Rows L2
theorem b_is_number : MPS.BdOk e_is_number := fun _ _ _ _ _ _ us hl => match us, hl with | [_], _ => rfl
theorem b_is_kind : MPS.BdOk e_is_kind := fun _ _ _ _ _ _ us hl => match us, hl with | [_, _], _ => rfl
theorem b_has_shape : MPS.BdOk e_has_shape := fun _ _ _ _ _ _ us hl => match us, hl with | [_], _ => rfl
theorem b_names_in : MPS.BdOk e_names_in := fun _ _ _ _ _ _ us hl => match us, hl with | [_], _ => rfl
theorem b_fault_of : MPS.BdOk e_fault_of := fun _ _ _ _ _ _ us hl => match us, hl with | [_, _, _, _], _ => rfl
theorem b_inner : MPS.BdOk e_inner := fun _ _ _ _ _ _ us hl => match us, hl with | [_, _], _ => rfl
theorem b_need_program : MPS.BdOk e_need_program := fun _ _ _ _ _ _ us hl => match us, hl with | [_], _ => rfl
theorem b_Counter___init__ : MPS.BdOk e_Counter___init__ := fun _ _ _ _ _ _ us hl => match us, hl with | [_], _ => rfl
theorem b_Counter_node : MPS.BdOk e_Counter_node := fun _ _ _ _ _ _ us hl => match us, hl with | [_, _], _ => rfl
theorem b_numbered : MPS.BdOk e_numbered := fun _ _ _ _ _ _ us hl => match us, hl with | [_], _ => rfl
theorem b_nodes : MPS.BdOk e_nodes := fun _ _ _ _ _ _ us hl => match us, hl with | [_, _], _ => rfl
theorem b_behind : MPS.BdOk e_behind := fun _ _ _ _ _ _ us hl => match us, hl with | [_, _], _ => rfl
theorem b_either : MPS.BdOk e_either := fun _ _ _ _ _ _ us hl => match us, hl with | [_, _], _ => rfl
theorem b_inner_of : MPS.BdOk e_inner_of := fun _ _ _ _ _ _ us hl => match us, hl with | [_, _], _ => rfl
theorem b_uses : MPS.BdOk e_uses := fun _ _ _ _ _ _ us hl => match us, hl with | [_, _], _ => rfl
theorem b_word_of : MPS.BdOk e_word_of := fun _ _ _ _ _ _ us hl => match us, hl with | [_, _, _], _ => rfl
theorem b_paper_of : MPS.BdOk e_paper_of := fun _ _ _ _ _ _ us hl => match us, hl with | [_, _], _ => rfl
theorem b_is_paper : MPS.BdOk e_is_paper := fun _ _ _ _ _ _ us hl => match us, hl with | [_, _, _], _ => rfl
theorem b_shows_it : MPS.BdOk e_shows_it := fun _ _ _ _ _ _ us hl => match us, hl with | [_, _], _ => rfl
theorem b_papers : MPS.BdOk e_papers := fun _ _ _ _ _ _ us hl => match us, hl with | [_], _ => rfl
theorem b_shows : MPS.BdOk e_shows := fun _ _ _ _ _ _ us hl => match us, hl with | [_, _, _], _ => rfl
theorem b__law_dice : MPS.BdOk e__law_dice := fun _ _ _ _ _ _ us hl => match us, hl with | [_], _ => rfl
theorem b__law_next : MPS.BdOk e__law_next := fun _ _ _ _ _ _ us hl => match us, hl with | [_, _], _ => rfl
theorem b__law_like : MPS.BdOk e__law_like := fun _ _ _ _ _ _ us hl => match us, hl with | [_, _], _ => rfl
theorem b__law_name : MPS.BdOk e__law_name := fun _ _ _ _ _ _ us hl => match us, hl with | [_, _, _], _ => rfl
theorem b__law_leaf : MPS.BdOk e__law_leaf := fun _ _ _ _ _ _ us hl => match us, hl with | [_, _], _ => rfl
theorem b__law_with : MPS.BdOk e__law_with := fun _ _ _ _ _ _ us hl => match us, hl with | [_, _], _ => rfl
theorem b__law_free : MPS.BdOk e__law_free := fun _ _ _ _ _ _ us hl => match us, hl with | [_], _ => rfl
theorem b__law_expr : MPS.BdOk e__law_expr := fun _ _ _ _ _ _ us hl => match us, hl with | [_, _, _], _ => rfl
theorem b__law_let : MPS.BdOk e__law_let := fun _ _ _ _ _ _ us hl => match us, hl with | [_, _, _, _], _ => rfl
theorem b__law_use : MPS.BdOk e__law_use := fun _ _ _ _ _ _ us hl => match us, hl with | [_, _, _], _ => rfl
theorem b__law_catch : MPS.BdOk e__law_catch := fun _ _ _ _ _ _ us hl => match us, hl with | [_, _, _], _ => rfl
theorem b__law_size : MPS.BdOk e__law_size := fun _ _ _ _ _ _ us hl => match us, hl with | [_], _ => rfl
theorem b__law_deep : MPS.BdOk e__law_deep := fun _ _ _ _ _ _ us hl => match us, hl with | [_], _ => rfl
theorem b__law_program : MPS.BdOk e__law_program := fun _ _ _ _ _ _ us hl => match us, hl with | [_], _ => rfl
theorem b__law_loop : MPS.BdOk e__law_loop := fun _ _ _ _ _ _ us hl => match us, hl with | [_, _, _, _], _ => rfl
theorem b__law_again : MPS.BdOk e__law_again := fun _ _ _ _ _ _ us hl => match us, hl with | [_], _ => rfl
theorem b__law_long : MPS.BdOk e__law_long := fun _ _ _ _ _ _ us hl => match us, hl with | [_], _ => rfl
theorem b__law_any : MPS.BdOk e__law_any := fun _ _ _ _ _ _ us hl => match us, hl with | [_], _ => rfl
theorem b__law_join : MPS.BdOk e__law_join := fun _ _ _ _ _ _ us hl => match us, hl with | [_], _ => rfl
theorem b__law_paper : MPS.BdOk e__law_paper := fun _ _ _ _ _ _ us hl => match us, hl with | [_, _], _ => rfl
theorem b__law_catches : MPS.BdOk e__law_catches := fun _ _ _ _ _ _ us hl => match us, hl with | [_], _ => rfl
theorem b__law_papers : MPS.BdOk e__law_papers := fun _ _ _ _ _ _ us hl => match us, hl with | [_], _ => rfl
theorem b__law_handled : MPS.BdOk e__law_handled := fun _ _ _ _ _ _ us hl => match us, hl with | [_], _ => rfl
theorem b__law_tall : MPS.BdOk e__law_tall := fun _ _ _ _ _ _ us hl => match us, hl with | [_], _ => rfl
theorem b_law : MPS.BdOk e_law := fun _ _ _ _ _ _ us hl => match us, hl with | [_], _ => rfl
theorem bds : ∀ e ∈ T, MPS.BdOk e := List.forall_mem_cons.2 ⟨b_is_number, List.forall_mem_cons.2 ⟨b_is_kind, List.forall_mem_cons.2 ⟨b_has_shape, List.forall_mem_cons.2 ⟨b_names_in, List.forall_mem_cons.2 ⟨b_fault_of, List.forall_mem_cons.2 ⟨b_inner, List.forall_mem_cons.2 ⟨b_need_program, List.forall_mem_cons.2 ⟨b_Counter___init__, List.forall_mem_cons.2 ⟨b_Counter_node, List.forall_mem_cons.2 ⟨b_numbered, List.forall_mem_cons.2 ⟨b_nodes, List.forall_mem_cons.2 ⟨b_behind, List.forall_mem_cons.2 ⟨b_either, List.forall_mem_cons.2 ⟨b_inner_of, List.forall_mem_cons.2 ⟨b_uses, List.forall_mem_cons.2 ⟨b_word_of, List.forall_mem_cons.2 ⟨b_paper_of, List.forall_mem_cons.2 ⟨b_is_paper, List.forall_mem_cons.2 ⟨b_shows_it, List.forall_mem_cons.2 ⟨b_papers, List.forall_mem_cons.2 ⟨b_shows, List.forall_mem_cons.2 ⟨b__law_dice, List.forall_mem_cons.2 ⟨b__law_next, List.forall_mem_cons.2 ⟨b__law_like, List.forall_mem_cons.2 ⟨b__law_name, List.forall_mem_cons.2 ⟨b__law_leaf, List.forall_mem_cons.2 ⟨b__law_with, List.forall_mem_cons.2 ⟨b__law_free, List.forall_mem_cons.2 ⟨b__law_expr, List.forall_mem_cons.2 ⟨b__law_let, List.forall_mem_cons.2 ⟨b__law_use, List.forall_mem_cons.2 ⟨b__law_catch, List.forall_mem_cons.2 ⟨b__law_size, List.forall_mem_cons.2 ⟨b__law_deep, List.forall_mem_cons.2 ⟨b__law_program, List.forall_mem_cons.2 ⟨b__law_loop, List.forall_mem_cons.2 ⟨b__law_again, List.forall_mem_cons.2 ⟨b__law_long, List.forall_mem_cons.2 ⟨b__law_any, List.forall_mem_cons.2 ⟨b__law_join, List.forall_mem_cons.2 ⟨b__law_paper, List.forall_mem_cons.2 ⟨b__law_catches, List.forall_mem_cons.2 ⟨b__law_papers, List.forall_mem_cons.2 ⟨b__law_handled, List.forall_mem_cons.2 ⟨b__law_tall, List.forall_mem_cons.2 ⟨b_law, fun _ h => absurd h List.not_mem_nil⟩⟩⟩⟩⟩⟩⟩⟩⟩⟩⟩⟩⟩⟩⟩⟩⟩⟩⟩⟩⟩⟩⟩⟩⟩⟩⟩⟩⟩⟩⟩⟩⟩⟩⟩⟩⟩⟩⟩⟩⟩⟩⟩⟩⟩⟩
theorem scs : (T.all fun e => C8.scC e.N e.ps e.d.scope && e.d.dfl.isEmpty && e.d.kwd.isEmpty) = true := by kernel_rfl
theorem nds : (T.map fun e => e.d.at_).Nodup := by decide +kernel
theorem kys : sg.keys = T.map fun e => e.d.at_ := by kernel_rfl
end Hd


set_option Elab.async false
set_option linter.all false
set_option maxRecDepth 100000
set_option maxHeartbeats 0
namespace Hd
open PySem PySem.Spec PyProof.Rows L2
theorem fns_eq : Cd.P.fns = T.map (MPS.Ent.df sg 200) := by kernel_rfl
theorem glos_eq : Cd.P.glos = gs.map fun g => (g.1, g.2.w) := by kernel_rfl
end Hd


set_option Elab.async false
set_option linter.all false
set_option maxRecDepth 100000
set_option maxHeartbeats 0
namespace Hd
open PySem PySem.Spec PyProof.Rows L2 MP PL
theorem has1 : HasG1 Cd.P := ⟨by kernel_rfl, by kernel_rfl, by kernel_rfl, by kernel_rfl, by kernel_rfl, by kernel_rfl⟩
theorem has2 : HasG2 Cd.P := ⟨has1, by kernel_rfl, by kernel_rfl, by kernel_rfl, by kernel_rfl⟩
theorem has4 : HasG4 Cd.P := ⟨has2, by kernel_rfl, by kernel_rfl⟩
theorem has5 : HasG5 Cd.P := ⟨has4, by kernel_rfl, by kernel_rfl⟩
theorem has6 : HasG6 Cd.P := ⟨has5, by kernel_rfl, by kernel_rfl, by kernel_rfl, by kernel_rfl⟩
theorem hasL3 : HasL3 Cd.P := ⟨has6, by kernel_rfl⟩
theorem hasL4 : HasL4 Cd.P := ⟨hasL3, by kernel_rfl⟩
theorem hasN1 : HasN1 Cd.P := ⟨by kernel_rfl, by kernel_rfl, by kernel_rfl, by kernel_rfl, by kernel_rfl, by kernel_rfl, by kernel_rfl, by kernel_rfl, by kernel_rfl, by kernel_rfl, by kernel_rfl, by kernel_rfl, by kernel_rfl⟩
theorem hasN3 : HasN3 Cd.P := ⟨hasN1, by kernel_rfl, by kernel_rfl, by kernel_rfl, by kernel_rfl, by kernel_rfl⟩
theorem hasN5 : HasN5 Cd.P := ⟨hasN3, by kernel_rfl, by kernel_rfl, by kernel_rfl, by kernel_rfl, by kernel_rfl, by kernel_rfl, by kernel_rfl, by kernel_rfl, by kernel_rfl, by kernel_rfl, by kernel_rfl⟩
theorem hasN7 : HasN7 Cd.P := ⟨hasN5, by kernel_rfl, by kernel_rfl, by kernel_rfl, by kernel_rfl⟩
theorem hasL1 : HasL1 Cd.P := ⟨by kernel_rfl, by kernel_rfl, by kernel_rfl⟩
theorem hasL2 : HasL2 Cd.P := ⟨hasL1, by kernel_rfl, by kernel_rfl⟩
theorem has14 : HasK14 Cd.P := ⟨hasL4, hasN7, hasL2, by kernel_rfl⟩
theorem pl (ns : List Int) (h : ns.length ≤ 63) : ∃ st, callF Cd.P 230 ("law", none) [.fro (ns.map .int)] [] = .ok (.bl true) st := by
  obtain ⟨a, st, e, rfl⟩ := (k14_law has14 (k := 230) (by decide) ns).ex
  exact ⟨st, e⟩
theorem stof : MPS.StOf sg Cd.P T gs fl 200 := ⟨fns_eq, glos_eq, by kernel_rfl, kys, nds, scs, bds⟩
end Hd
open PySem PySem.W PySem.Calls PyProof.Rows
theorem PySem.Challenge.cw_whatremains_k14_papers_holds : PySem.Challenge.rw_whatremains_k14_papers.Holds := by
  w_on; o_law
  refine HandSHeadRun.head_any (r := OpenLaw.row PySem.Challenge.rw_whatremains_k14_papers) (q := Hd.qv) (H := Hd.hk) (ob := Hd.ob) (M := 4000) (loose := Hd.loose) (d := HandSHeadRun.topDef (OpenLaw.row PySem.Challenge.rw_whatremains_k14_papers).prog Hd.LAWI) (kwd := []) Hd.ob_eq
    (by kernel_rfl) (fun s => by kernel_rfl) Hd.run (by kernel_rfl) (by kernel_rfl) (by kernel_rfl) (by rfl) (by first | assumption | decide +kernel) (by decide +kernel) ⟨rfl, rfl, rfl, rfl, rfl, by decide +kernel⟩ ?hw ?hc
  case hw => w_witness2
  case hc =>
    refine L2.walk_ofE (l := PySem.Challenge.rw_whatremains_k14_papers) (n := 63) (k := 230) (x := "_law_script") (CX := L2.CX0) rfl (by decide) (by kernel_rfl) ⟨rfl, by decide, by decide⟩ ?F (fun _ _ _ _ z => z)
    intro w mg fa h Y G hmg0
    obtain ⟨K, KX, c⟩ := Y
    have hmg : mg ("law" : PySem.Str) = some (.ref fa) := by
      have e : (HandSHeadRun.topDef (OpenLaw.row PySem.Challenge.rw_whatremains_k14_papers).prog Hd.LAWI).name = ("law" : PySem.Str) := by kernel_rfl
      rw [← e]
      exact hmg0
    have t := MPS.txt_of Hd.stof KX G c
    have he : Hd.e_law ∈ Hd.T := by unfold Hd.T; simp
    have e := hmg.symm.trans (t.glo Hd.e_law he "law" rfl)
    cases e
    obtain ⟨fd, F, B⟩ := t.fd Hd.e_law he
    exact ⟨K, fd, MPS.spOf K w (He.ga K) (MP.callF Cd.P 230) ("law", none) 1, KX, fun s u => L2.FunD.bindsA (ps := ["_law_script"]) F (Hd.b_law) s [u] rfl,
      fun H a ns hl hO hS => MPS.law_sp Hd.pl H a ns hl hO hS, fun base _ _ => (MPS.lev_ok t 230).1.fn Hd.e_law he rfl fd F⟩


